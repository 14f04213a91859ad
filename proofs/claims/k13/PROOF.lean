import PyProof.Rows.All
import Wide.All
import OpenK.AllK
import Wide.FinOn
import HandS.ForMost
import HandS.ForExc
import HandS.Codes
import HandS.Wide
import HandS.IsInst
import HandS.CallSlots
import HandS.StrMore
import HandS.Deep
import HandS.TupAny
import HandS.TupLe
import HandS.Conv
import HandS.ExcIs
import KE.GoesEnum
import HandS.EndBits
import KE.IntBitsLaws
import PySem.Challenge.RW_byexample_k13_answers_of_pieces
set_option Elab.async false
set_option linter.all false
set_option maxRecDepth 100000
set_option maxHeartbeats 4000000
/-! Ts: trees of data over the layer: data, what stands for them, the state of a def's names. -/
namespace Ts
open PySem L2

/-- a Python value as a tree -/
inductive D where
  | non | bl (b : Bool) | int (i : Int) | str (s : List Nat)
  | tup (ds : List D) | lst (ds : List D) | dct (ks vs : List D) | ins (c : Nat) (ns : List Str) (vs : List D)

def St (a : List Nat) : Str := ⟨a.toArray⟩
theorem St_cps (a : List Nat) : (St a).cps.toList = a := by simp [St]
theorem St_len (a : List Nat) : (St a).length = a.length := by simp [St, Str.length]
theorem St_of (x : Str) : x = St x.cps.toList := by cases x; simp [St]

/-- extension of heaps -/
def Ex (H H' : Hp) : Prop := ∀ a o, H a = some o → H' a = some o
theorem Ex.refl (H : Hp) : Ex H H := fun _ _ h => h
theorem Ex.trans {H H1 H2 : Hp} (a : Ex H H1) (b : Ex H1 H2) : Ex H H2 := fun x o h => b x o (a x o h)
theorem Ex.upd {H : Hp} {p : Addr} {o : HO} (h : H p = none) : Ex H (upd H p o) := fun a u e => by
  rw [upd_ne (ne_of_none e h)]; exact e
theorem ex_rd {H H' : Hp} {a : Addr} {u : HO} (e : Ex H H') (h : Rd H a u) : Rd H' a u := by
  rcases h with h | ⟨o, h⟩
  · exact .inl (e a _ h)
  · exact .inr ⟨o, e a _ h⟩
theorem ex_l {K : PySem.W.Frag} {H H' : Hp} {a : Addr} {xs : List V} (e : Ex H H') (h : SqL K H a xs) : SqL K H' a xs :=
  h.elim (fun q => .inl (ex_rd e q)) .inr
theorem ex_t {K : PySem.W.Frag} {H H' : Hp} {a : Addr} {xs : List V} (e : Ex H H') (h : SqT K H a xs) : SqT K H' a xs :=
  h.elim (fun q => .inl (ex_rd e q)) .inr

/-- keys of written dicts as data -/
def keyD : Key → D
  | .inl i => .int i
  | .inr x => .str x.cps.toList

mutual
/-- v stands for d in H -/
def Rep (K : PySem.W.Frag) (H : Hp) : D → V → Prop
  | .non, v => v = .non
  | .bl b, v => v = .bl b
  | .int i, v => v = .int i
  | .str s, v => v = .str (St s)
  | .tup ds, v => ∃ a vs, v = .ref a ∧ SqT K H a vs ∧ RepL K H ds vs
  | .lst ds, v => ∃ a vs, v = .ref a ∧ SqL K H a vs ∧ RepL K H ds vs
  | .dct ks ds, v => ∃ a kvs, v = .ref a ∧ Rd H a (.dK kvs) ∧ ks = kvs.map (fun p => keyD p.1) ∧ RepL K H ds (kvs.map (·.2))
  | .ins c ns ds, v => ∃ a dx fs, v = .ref a ∧ H a = some (.ins c dx fs) ∧ ns = fs.map (·.1) ∧ RepL K H ds (fs.map (·.2))
def RepL (K : PySem.W.Frag) (H : Hp) : List D → List V → Prop
  | [], vs => vs = []
  | d :: ds, vs => ∃ v r, vs = v :: r ∧ Rep K H d v ∧ RepL K H ds r
end

section
variable {K : PySem.W.Frag} {H H' : Hp}
mutual
theorem Rep.mono (e : Ex H H') : ∀ {d : D} {v : V}, Rep K H d v → Rep K H' d v
  | .non, _, h => h
  | .bl _, _, h => h
  | .int _, _, h => h
  | .str _, _, h => h
  | .tup _, _, ⟨a, vs, h1, h2, h3⟩ => ⟨a, vs, h1, ex_t e h2, RepL.mono e h3⟩
  | .lst _, _, ⟨a, vs, h1, h2, h3⟩ => ⟨a, vs, h1, ex_l e h2, RepL.mono e h3⟩
  | .dct _ _, _, ⟨a, kvs, h1, h2, h3, h4⟩ => ⟨a, kvs, h1, ex_rd e h2, h3, RepL.mono e h4⟩
  | .ins _ _ _, _, ⟨a, dx, fs, h1, h2, h3, h4⟩ => ⟨a, dx, fs, h1, e _ _ h2, h3, RepL.mono e h4⟩
theorem RepL.mono (e : Ex H H') : ∀ {ds : List D} {vs : List V}, RepL K H ds vs → RepL K H' ds vs
  | [], _, h => h
  | _ :: _, _, ⟨v, r, h1, h2, h3⟩ => ⟨v, r, h1, Rep.mono e h2, RepL.mono e h3⟩
end
theorem RepL.len : ∀ {ds : List D} {vs : List V}, RepL K H ds vs → vs.length = ds.length
  | [], _, h => by rw [show _ = _ from h]; rfl
  | _ :: _, _, ⟨v, r, h1, _, h3⟩ => by rw [h1, List.length_cons, List.length_cons, RepL.len h3]
theorem RepL.get : ∀ {ds : List D} {vs : List V} {i : Nat} {d : D}, RepL K H ds vs → ds[i]? = some d → ∃ v, vs[i]? = some v ∧ Rep K H d v
  | [], _, _, _, _, e => by simp at e
  | _ :: _, _, 0, _, ⟨v, r, h1, h2, _⟩, e => by simp at e; subst e; subst h1; exact ⟨v, rfl, h2⟩
  | _ :: _, _, i + 1, _, ⟨v, r, h1, _, h3⟩, e => by
    subst h1
    obtain ⟨w, q1, q2⟩ := RepL.get (i := i) h3 (by simpa using e)
    exact ⟨w, by simpa using q1, q2⟩
theorem RepL.get' : ∀ {ds : List D} {vs : List V} {i : Nat} {v : V}, RepL K H ds vs → vs[i]? = some v → ∃ d, ds[i]? = some d ∧ Rep K H d v
  | [], _, _, _, h, e => by rw [show _ = _ from h] at e; simp at e
  | d :: _, _, 0, _, ⟨v, r, h1, h2, _⟩, e => by subst h1; simp at e; subst e; exact ⟨d, rfl, h2⟩
  | _ :: _, _, i + 1, _, ⟨v, r, h1, _, h3⟩, e => by
    subst h1
    obtain ⟨w, q1, q2⟩ := RepL.get' (i := i) h3 (by simpa using e)
    exact ⟨w, by simpa using q1, q2⟩
theorem RepL.app : ∀ {ds es : List D} {vs us : List V}, RepL K H ds vs → RepL K H es us → RepL K H (ds ++ es) (vs ++ us)
  | [], _, _, _, h, q => by rw [show _ = _ from h]; exact q
  | _ :: _, _, _, _, ⟨v, r, h1, h2, h3⟩, q => by subst h1; exact ⟨v, r ++ _, rfl, h2, RepL.app h3 q⟩
theorem RepL.one {d : D} {v : V} (h : Rep K H d v) : RepL K H [d] [v] := ⟨v, [], rfl, h, rfl⟩
theorem RepL.take : ∀ {ds : List D} {vs : List V} (n : Nat), RepL K H ds vs → RepL K H (ds.take n) (vs.take n)
  | _, _, 0, _ => rfl
  | [], _, _ + 1, h => by rw [show _ = _ from h]; rfl
  | _ :: _, _, n + 1, ⟨v, r, h1, h2, h3⟩ => by subst h1; exact ⟨v, r.take n, rfl, h2, RepL.take n h3⟩
theorem RepL.drop : ∀ {ds : List D} {vs : List V} (n : Nat), RepL K H ds vs → RepL K H (ds.drop n) (vs.drop n)
  | _, _, 0, h => h
  | [], _, _ + 1, h => by rw [show _ = _ from h]; rfl
  | _ :: _, _, n + 1, ⟨v, r, h1, _, h3⟩ => by subst h1; exact RepL.drop n h3
theorem RepL.set {d : D} {v : V} (r : Rep K H d v) : ∀ {ds : List D} {vs : List V} (n : Nat), RepL K H ds vs → RepL K H (ds.set n d) (vs.set n v)
  | [], _, _, h => by rw [show _ = _ from h]; rfl
  | _ :: _, _, 0, ⟨w, s, h1, h2, h3⟩ => by subst h1; exact ⟨v, s, rfl, r, h3⟩
  | _ :: _, _, n + 1, ⟨w, s, h1, h2, h3⟩ => by subst h1; exact ⟨w, s.set n v, rfl, h2, RepL.set r n h3⟩
end

/-! ### the names of a def -/
/-- a slot: nothing is known; a value; a list of the def's own, which it may still change -/
inductive Sl where
  | no | val (d : D) | lst (ds : List D) | dct (ks vs : List D) | ins (c : Nat) (ns : List Str) (vs : List D) | exc (a : Nat)
abbrev Env := List Sl

def SlOk (K : PySem.W.Frag) (F H : Hp) : Sl → Option V → List Addr → Prop
  | .no, _, f => f = []
  | .val d, ov, f => f = [] ∧ ∃ v, ov = some v ∧ Rep K F d v
  | .exc a, ov, f => f = [] ∧ ov = some (.ref a)
  | .lst ds, ov, f => ∃ a vs, ov = some (.ref a) ∧ f = [a] ∧ H a = some (.lst vs) ∧ RepL K F ds vs
  | .dct ks ds, ov, f => ∃ a kvs, ov = some (.ref a) ∧ f = [a] ∧ H a = some (.dK kvs) ∧ ks = kvs.map (fun p => keyD p.1) ∧ RepL K F ds (kvs.map (·.2))
  | .ins c ns ds, ov, f => ∃ a dx fs, ov = some (.ref a) ∧ f = [a] ∧ H a = some (.ins c dx fs) ∧ ns = fs.map (·.1) ∧ RepL K F ds (fs.map (·.2))

abbrev Fp := Nat → List Addr
/-- F: what is known and stays; H: all; σ the names' values; fp: what each name owns -/
structure Ok (K : PySem.W.Frag) (F H : Hp) (σ : List (Option V)) (ρ : Env) (fp : Fp) : Prop where
  ex : Ex F H
  len : σ.length = ρ.length
  sl : ∀ i s, ρ[i]? = some s → ∃ ov, σ[i]? = some ov ∧ SlOk K F H s ov (fp i)
  out : ∀ i, ρ.length ≤ i → fp i = []
  own : ∀ i a, a ∈ fp i → F a = none ∧ H a ≠ none
  dis : ∀ i j a, a ∈ fp i → a ∈ fp j → i = j

/-- a step of a def that owns fp -/
structure Stp (F H : Hp) (fp : Fp) (F' H' : Hp) (fp' : Fp) : Prop where
  exF : Ex F F'
  frm : ∀ b o, H b = some o → (∀ i, b ∉ fp i) → H' b = some o
  new : ∀ b, H b ≠ none → F b = none → (∀ i, b ∉ fp i) → F' b = none
  own : ∀ i b, b ∈ fp' i → (∃ j, b ∈ fp j) ∨ H b = none
  thr : ∀ b, H b ≠ none → H' b ≠ none
theorem Stp.refl (F H : Hp) (fp : Fp) : Stp F H fp F H fp := ⟨Ex.refl F, fun _ _ h _ => h, fun _ _ h _ => h, fun i _ h => .inl ⟨i, h⟩, fun _ h => h⟩
theorem Stp.trans {F H F1 H1 F2 H2 : Hp} {fp fp1 fp2 : Fp} (a : Stp F H fp F1 H1 fp1) (b : Stp F1 H1 fp1 F2 H2 fp2) : Stp F H fp F2 H2 fp2 := by
  have nf : ∀ c, H c ≠ none → (∀ i, c ∉ fp i) → ∀ i, c ∉ fp1 i := fun c h n i hi => by
    rcases a.own i c hi with ⟨j, z⟩ | z
    · exact n j z
    · exact h z
  refine ⟨a.exF.trans b.exF, fun c o h n => b.frm c o (a.frm c o h n) (nf c (by simp [h]) n), fun c h f n => ?_, fun i c h => ?_, fun c h => b.thr c (a.thr c h)⟩
  · have h1 : H1 c ≠ none := by
      cases q : H c with
      | none => exact absurd q h
      | some o => rw [a.frm c o q n]; simp
    exact b.new c h1 (a.new c h f n) (nf c h n)
  · rcases b.own i c h with ⟨j, z⟩ | z
    · exact a.own j c z
    · by_cases hc : ∃ j, c ∈ fp j
      · exact .inl hc
      · refine .inr ?_
        cases q : H c with
        | none => rfl
        | some o =>
          rw [a.frm c o q fun i hi => hc ⟨i, hi⟩] at z
          cases z

section
variable {K : PySem.W.Frag} {F H F' H' : Hp} {σ : List (Option V)} {ρ : Env} {fp : Fp}
/-- nothing that stands is changed -/
structure Ext (F H F' H' : Hp) : Prop where
  exF : Ex F F'
  exH : Ex H H'
  sub : Ex F' H'
  new : ∀ b, H b ≠ none → F b = none → F' b = none
theorem Ext.refl (h : Ex F H) : Ext F H F H := ⟨Ex.refl F, Ex.refl H, h, fun _ _ h => h⟩
theorem Ext.stp (x : Ext F H F' H') : Stp F H fp F' H' fp := ⟨x.exF, fun b o h _ => x.exH b o h, fun b h f _ => x.new b h f, fun i _ h => .inl ⟨i, h⟩, fun b h => by
    cases q : H b with
    | none => exact absurd q h
    | some o => rw [x.exH b o q]; simp⟩
theorem Ext.trans {F2 H2 : Hp} (a : Ext F H F' H') (b : Ext F' H' F2 H2) : Ext F H F2 H2 :=
  ⟨a.exF.trans b.exF, a.exH.trans b.exH, b.sub, fun c h f => b.new c (by
    cases q : H c with
    | none => exact absurd q h
    | some o => rw [a.exH c o q]; simp) (a.new c h f)⟩
/-- a new object, known from now on -/
theorem Ext.upd {p : Addr} {o : HO} (h : Ex F H) (n : H p = none) : Ext F H (upd F p o) (upd H p o) := by
  have nF : F p = none := by
    cases q : F p with
    | none => rfl
    | some u => rw [h p u q] at n; cases n
  refine ⟨Ex.upd nF, Ex.upd n, fun a u e => ?_, fun b hb hf => ?_⟩
  · by_cases z : a = p
    · subst z; rw [upd_same] at e ⊢; exact e
    · rw [upd_ne z] at e ⊢; exact h a u e
  · have z : b ≠ p := fun z => hb (by rw [z]; exact n)
    rw [upd_ne z]; exact hf
theorem Ext.updH {p : Addr} {o : HO} (h : Ex F H) (n : H p = none) : Ext F H F (L2.upd H p o) :=
  ⟨Ex.refl F, Ex.upd n, h.trans (Ex.upd n), fun _ _ f => f⟩
theorem SlOk.mono (eF : Ex F F') (eH : ∀ a o, a ∈ fp 0 ∨ True → H a = some o → H' a = some o) : ∀ {s : Sl} {ov : Option V} {f : List Addr}, SlOk K F H s ov f → SlOk K F' H' s ov f
  | .no, _, _, h => h
  | .exc _, _, _, h => h
  | .val _, _, _, ⟨h, v, e, r⟩ => ⟨h, v, e, r.mono eF⟩
  | .lst _, _, _, ⟨a, vs, h1, h2, h3, h4⟩ => ⟨a, vs, h1, h2, eH _ _ (.inr trivial) h3, h4.mono eF⟩
  | .dct _ _, _, _, ⟨a, vs, h1, h2, h3, h4, h5⟩ => ⟨a, vs, h1, h2, eH _ _ (.inr trivial) h3, h4, h5.mono eF⟩
  | .ins _ _ _, _, _, ⟨a, dx, vs, h1, h2, h3, h4, h5⟩ => ⟨a, dx, vs, h1, h2, eH _ _ (.inr trivial) h3, h4, h5.mono eF⟩
/-- what a slot says leans on its own addresses alone -/
theorem SlOk.keep (eF : Ex F F') {f : List Addr} (eH : ∀ a ∈ f, ∀ o, H a = some o → H' a = some o) : ∀ {s : Sl} {ov : Option V}, SlOk K F H s ov f → SlOk K F' H' s ov f
  | .no, _, h => h
  | .exc _, _, h => h
  | .val _, _, ⟨h, v, e, r⟩ => ⟨h, v, e, r.mono eF⟩
  | .lst _, _, ⟨a, vs, h1, h2, h3, h4⟩ => ⟨a, vs, h1, h2, eH a (by simp [h2]) _ h3, h4.mono eF⟩
  | .dct _ _, _, ⟨a, vs, h1, h2, h3, h4, h5⟩ => ⟨a, vs, h1, h2, eH a (by simp [h2]) _ h3, h4, h5.mono eF⟩
  | .ins _ _ _, _, ⟨a, dx, vs, h1, h2, h3, h4, h5⟩ => ⟨a, dx, vs, h1, h2, eH a (by simp [h2]) _ h3, h4, h5.mono eF⟩
theorem Ok.ext (k : Ok K F H σ ρ fp) (x : Ext F H F' H') : Ok K F' H' σ ρ fp := by
  refine ⟨x.sub, k.len, fun i s e => ?_, k.out, fun i a h => ?_, k.dis⟩
  · obtain ⟨ov, e1, e2⟩ := k.sl i s e
    exact ⟨ov, e1, e2.keep x.exF fun a _ o q => x.exH a o q⟩
  · obtain ⟨h1, h2⟩ := k.own i a h
    refine ⟨x.new a h2 h1, ?_⟩
    cases q : H a with
    | none => exact absurd q h2
    | some o => rw [x.exH a o q]; simp
theorem Ok.val {i : Nat} {d : D} (k : Ok K F H σ ρ fp) (e : ρ[i]? = some (.val d)) : ∃ v, σ[i]? = some (some v) ∧ Rep K F d v := by
  obtain ⟨ov, e1, _, v, e2, r⟩ := k.sl i _ e
  subst e2
  exact ⟨v, e1, r⟩
def setFp (fp : Fp) (i : Nat) (l : List Addr) : Fp := fun j => if j = i then l else fp j
theorem setFp_same {i : Nat} {l : List Addr} : setFp fp i l i = l := by simp [setFp]
theorem setFp_ne {i j : Nat} {l : List Addr} (h : j ≠ i) : setFp fp i l j = fp j := by simp [setFp, h]
/-- a name gets a value -/
theorem Ok.setVal {i : Nat} {d : D} {v : V} (k : Ok K F H σ ρ fp) (r : Rep K F d v) : Ok K F H (σ.set i (some v)) (ρ.set i (.val d)) (setFp fp i []) := by
  refine ⟨k.ex, by simp [k.len], fun j s e => ?_, fun j hj => ?_, fun j a h => ?_, fun j l a h1 h2 => ?_⟩
  · by_cases z : j = i
    · subst z
      have hl : j < ρ.length := by
        rcases Nat.lt_or_ge j ρ.length with q | q
        · exact q
        · rw [List.getElem?_eq_none (by simpa using q)] at e; cases e
      rw [List.getElem?_set_self hl] at e
      cases e
      exact ⟨some v, List.getElem?_set_self (by rw [k.len]; exact hl), setFp_same, v, rfl, r⟩
    · rw [List.getElem?_set_ne (Ne.symm z)] at e
      obtain ⟨ov, e1, e2⟩ := k.sl j s e
      exact ⟨ov, by rw [List.getElem?_set_ne (Ne.symm z)]; exact e1, by rw [setFp_ne z]; exact e2⟩
  · by_cases z : j = i
    · subst z; exact setFp_same
    · rw [setFp_ne z]; exact k.out j (by simpa using hj)
  · by_cases z : j = i
    · subst z; rw [setFp_same] at h; cases h
    · rw [setFp_ne z] at h; exact k.own j a h
  · by_cases z : j = i
    · subst z; rw [setFp_same] at h1; cases h1
    · by_cases y : l = i
      · subst y; rw [setFp_same] at h2; cases h2
      · rw [setFp_ne z] at h1; rw [setFp_ne y] at h2; exact k.dis j l a h1 h2
theorem Stp.setVal {i : Nat} : Stp F H fp F H (setFp fp i []) := ⟨Ex.refl F, fun _ _ h _ => h, fun _ _ h _ => h, fun j b h => by
  by_cases z : j = i
  · subst z; rw [setFp_same] at h; cases h
  · rw [setFp_ne z] at h; exact .inl ⟨j, h⟩, fun _ h => h⟩
/-- a name gets a new object that it owns: p is not known, and nobody's -/
theorem Ok.setOwn {i : Nat} {s : Sl} {p : Addr} (k : Ok K F H σ ρ fp) (hi : i < ρ.length) (hF : F p = none) (hH : H p ≠ none) (hn : ∀ j, p ∉ fp j) (q : SlOk K F H s (some (.ref p)) [p]) :
    Ok K F H (σ.set i (some (.ref p))) (ρ.set i s) (setFp fp i [p]) := by
  refine ⟨k.ex, by simp [k.len], fun j t e => ?_, fun j hj => ?_, fun j a h => ?_, fun j l a h1 h2 => ?_⟩
  · by_cases z : j = i
    · subst z
      rw [List.getElem?_set_self hi] at e
      cases e
      exact ⟨_, List.getElem?_set_self (by rw [k.len]; exact hi), by rw [setFp_same]; exact q⟩
    · rw [List.getElem?_set_ne (Ne.symm z)] at e
      obtain ⟨ov, e1, e2⟩ := k.sl j t e
      exact ⟨ov, by rw [List.getElem?_set_ne (Ne.symm z)]; exact e1, by rw [setFp_ne z]; exact e2⟩
  · have hj' : ρ.length ≤ j := by simpa using hj
    rw [setFp_ne (by omega)]; exact k.out j hj'
  · by_cases z : j = i
    · subst z; rw [setFp_same] at h; simp at h; subst h; exact ⟨hF, hH⟩
    · rw [setFp_ne z] at h; exact k.own j a h
  · by_cases z : j = i
    · subst z
      rw [setFp_same] at h1; simp at h1; subst h1
      by_cases y : l = j
      · exact y.symm
      · rw [setFp_ne y] at h2; exact absurd h2 (hn l)
    · by_cases y : l = i
      · subst y
        rw [setFp_same] at h2; simp at h2; subst h2
        rw [setFp_ne z] at h1; exact absurd h1 (hn j)
      · rw [setFp_ne z] at h1; rw [setFp_ne y] at h2; exact k.dis j l a h1 h2
/-- the list of slot i is changed: H' differs at a alone -/
theorem Ok.chg {i : Nat} {s s' : Sl} {a : Addr} {o : HO} (k : Ok K F H σ ρ fp) (e : ρ[i]? = some s) (ea : σ[i]? = some (some (.ref a))) (hf : fp i = [a]) (q : SlOk K F (L2.upd H a o) s' (some (.ref a)) [a]) :
    Ok K F (L2.upd H a o) σ (ρ.set i s') fp := by
  have hi : i < ρ.length := (List.getElem?_eq_some_iff.mp e).1
  have hF := (k.own i a (by simp [hf])).1
  refine ⟨fun b u h => ?_, by simp [k.len], fun j t et => ?_, fun j hj => k.out j (by simpa using hj), fun j b h => ⟨(k.own j b h).1, ?_⟩, k.dis⟩
  · rw [upd_ne fun z => by rw [z, hF] at h; cases h]; exact k.ex b u h
  · by_cases z : j = i
    · subst z
      rw [List.getElem?_set_self hi] at et
      cases et
      exact ⟨_, ea, by rw [hf]; exact q⟩
    · rw [List.getElem?_set_ne (Ne.symm z)] at et
      obtain ⟨ov, e1, e2⟩ := k.sl j t et
      refine ⟨ov, e1, e2.keep (Ex.refl F) fun b hb u hu => ?_⟩
      rw [upd_ne fun y => z (k.dis j i b hb (by rw [hf, y]; simp))]; exact hu
  · by_cases z : b = a
    · subst z; rw [upd_same]; simp
    · rw [upd_ne z]; exact (k.own j b h).2
theorem Stp.chg {i : Nat} {a : Addr} {o : HO} (hf : a ∈ fp i) : Stp F H fp F (L2.upd H a o) fp :=
  ⟨Ex.refl F, fun b u h n => by rw [upd_ne fun z => n i (by rw [z]; exact hf)]; exact h, fun _ _ h _ => h, fun j _ h => .inl ⟨j, h⟩, fun b h => by
    by_cases z : b = a
    · subst z; rw [upd_same]; simp
    · rw [upd_ne z]; exact h⟩
end
end Ts
set_option Elab.async false
set_option linter.all false
set_option maxRecDepth 100000
set_option maxHeartbeats 4000000
/-! Ts, second part: what operations do to trees; the small language; its weakest preconditions. -/
namespace Ts
open PySem L2

/-! ### operations on trees -/
mutual
def toP : D → PyData
  | .non => .none
  | .bl b => .bool b
  | .int i => .int i
  | .str s => .str (St s)
  | .lst ds => .list (toPs ds)
  | .tup ds => .tuple (toPs ds)
  | .dct _ _ => .none
  | .ins _ _ _ => .none
def toPs : List D → List PyData
  | [] => []
  | d :: ds => toP d :: toPs ds
end
mutual
def eqD : D → D → Bool
  | .non, .non => true
  | .bl a, .bl b => a == b
  | .bl a, .int j => (if a then 1 else 0) == j
  | .int i, .bl b => i == (if b then 1 else 0)
  | .int i, .int j => i == j
  | .str x, .str y => x == y
  | .lst xs, .lst ys => eqDs xs ys
  | .tup xs, .tup ys => eqDs xs ys
  | _, _ => false
def eqDs : List D → List D → Bool
  | [], [] => true
  | x :: xs, y :: ys => eqD x y && eqDs xs ys
  | _, _ => false
end
/-- data that == may be asked of, n deep at most -/
def okN : Nat → D → Bool
  | _, .non => true
  | _, .bl _ => true
  | _, .int _ => true
  | _, .str s => s.all fun c => decide (c < 0x110000)
  | n + 1, .lst ds => ds.all (okN n)
  | n + 1, .tup ds => ds.all (okN n)
  | _, _ => false
def flatD : D → Bool
  | .non => true
  | .bl _ => true
  | .int _ => true
  | .str _ => true
  | _ => false
abbrev line : Nat := 16777216
inductive BOp where
  | add | sub | mul | fdiv | mod | pow
  deriving DecidableEq
inductive COp where
  | eq | ne | lt | le | gt | ge | is | isn | in_ | nin
  deriving DecidableEq
/-- * of ints: bits together -/
def MulOk (a b : Int) : Prop := Builtin.Int.intBits a + Builtin.Int.intBits b ≤ 134217728
def DivOk (b : Int) : Prop := 0 < b ∧ b < 2 ^ 256
def PowOk (a b : Int) : Prop := 0 ≤ b ∧ b ≤ 1000 ∧ 0 ≤ a ∧ a < 2 ^ 64
def rep (s : List Nat) (n : Int) : List Nat := (List.replicate n.toNat s).flatten
def binP : BOp → D → D → (D → Prop) → Prop
  | .add, .int a, .int b, P => P (.int (a + b))
  | .add, .str a, .str b, P => a.length + b.length ≤ line ∧ P (.str (a ++ b))
  | .add, .lst a, .lst b, P => a.length + b.length ≤ line ∧ P (.lst (a ++ b))
  | .add, .tup a, .tup b, P => a.length + b.length ≤ line ∧ P (.tup (a ++ b))
  | .sub, .int a, .int b, P => P (.int (a - b))
  | .mul, .int a, .int b, P => MulOk a b ∧ P (.int (a * b))
  | .mul, .str a, .int b, P => 0 ≤ b ∧ b ≤ 1000 ∧ a.length ≤ 1000 ∧ P (.str (rep a b))
  | .fdiv, .int a, .int b, P => DivOk b ∧ P (.int (a / b))
  | .mod, .int a, .int b, P => 0 < b ∧ P (.int (a % b))
  | .pow, .int a, .int b, P => PowOk a b ∧ P (.int (a ^ b.toNat))
  | _, _, _, _ => False
def inS (a b : List Nat) : Bool := !(Builtin.Str.occurrences (St b) (St a) 0 (St b).length 1).isEmpty
def isNonD : D → Bool
  | .non => true
  | _ => false
def cmpP : COp → D → D → (Bool → Prop) → Prop
  | .eq, x, y, P => okN 40 x = true ∧ okN 40 y = true ∧ P (eqD x y)
  | .ne, x, y, P => okN 40 x = true ∧ okN 40 y = true ∧ P (!eqD x y)
  | .lt, .int a, .int b, P => P (decide (a < b))
  | .le, .int a, .int b, P => P (decide (a ≤ b))
  | .gt, .int a, .int b, P => P (decide (b < a))
  | .ge, .int a, .int b, P => P (decide (b ≤ a))
  | .is, .bl a, .bl b, P => P (decide (a = b))
  | .isn, .bl a, .bl b, P => P (!decide (a = b))
  | .is, x, .non, P => P (isNonD x)
  | .isn, x, .non, P => P (!isNonD x)
  | .in_, .str a, .str b, P => P (inS a b)
  | .nin, .str a, .str b, P => P (!inS a b)
  | .in_, x, .tup ds, P => flatD x = true ∧ ds.all flatD = true ∧ P (ds.any fun d => eqD d x)
  | .nin, x, .tup ds, P => flatD x = true ∧ ds.all flatD = true ∧ P (!ds.any fun d => eqD d x)
  | .in_, x, .lst ds, P => okN 40 x = true ∧ ds.all (okN 40) = true ∧ P (ds.any fun d => eqD d x)
  | .nin, x, .lst ds, P => okN 40 x = true ∧ ds.all (okN 40) = true ∧ P (!ds.any fun d => eqD d x)
  | _, _, _, _ => False
def ixP : D → D → (D → Prop) → Prop
  | .str s, .int i, P => s.length ≤ line ∧ ∃ c, atI s i = some c ∧ P (.str [c])
  | .lst ds, .int i, P => ∃ d, atI ds i = some d ∧ P d
  | .tup ds, .int i, P => ∃ d, atI ds i = some d ∧ P d
  | _, _, _ => False
def cut {α : Type} (xs : List α) (lo hi : Option Int) : List α := (xs.drop (HT.sIx xs.length 0 lo)).take (HT.sIx xs.length xs.length hi - HT.sIx xs.length 0 lo)
def slP : D → Option Int → Option Int → (D → Prop) → Prop
  | .str s, lo, hi, P => s.length ≤ line ∧ P (.str (cut s lo hi))
  | .lst ds, lo, hi, P => P (.lst (cut ds lo hi))
  | .tup ds, lo, hi, P => P (.tup (cut ds lo hi))
  | _, _, _, _ => False
inductive Ty where
  | str | tuple | int | bool | list
  deriving DecidableEq
def isiD : Ty → D → Bool
  | .str, .str _ => true
  | .tuple, .tup _ => true
  | .int, .int _ => true
  | .int, .bl _ => true
  | .bool, .bl _ => true
  | .list, .lst _ => true
  | _, _ => false
def noIns : D → Bool
  | .ins _ _ _ => false
  | _ => true
inductive BI where
  | len | abs | int | str | list | tuple | sum | all | any | max2 | min2 | maxl | minl | isi (t : Ty)
  deriving DecidableEq
def intsD : List D → Option (List Int)
  | [] => some []
  | .int i :: r => (intsD r).map (i :: ·)
  | _ => none
def boolsD : List D → Option (List Bool)
  | [] => some []
  | .bl i :: r => (boolsD r).map (i :: ·)
  | _ => none
def strs? : List D → Option (List (List Nat))
  | [] => some []
  | .str i :: r => (strs? r).map (i :: ·)
  | _ => none
def toStr (i : Int) : List Nat := (Str.ofString (toString i)).cps.toList
def biP : BI → List D → (D → Prop) → Prop
  | .len, [.str s], P => s.length ≤ line ∧ P (.int s.length)
  | .len, [.lst ds], P => P (.int ds.length)
  | .len, [.tup ds], P => P (.int ds.length)
  | .abs, [.int i], P => P (.int (if i < 0 then -i else i))
  | .int, [.int i], P => P (.int i)
  | .int, [.bl b], P => P (.int (if b then 1 else 0))
  | .str, [.int i], P => i.natAbs < 2 ^ 256 ∧ P (.str (toStr i))
  | .list, [.lst ds], P => P (.lst ds)
  | .list, [.tup ds], P => P (.lst ds)
  | .tuple, [.lst ds], P => P (.tup ds)
  | .tuple, [.tup ds], P => P (.tup ds)
  | .sum, [.lst ds], P => ∃ ns, intsD ds = some ns ∧ P (.int ns.sum)
  | .all, [.lst ds], P => ∃ bs, boolsD ds = some bs ∧ P (.bl (bs.all id))
  | .any, [.lst ds], P => ∃ bs, boolsD ds = some bs ∧ P (.bl (bs.any id))
  | .max2, [.int i, .int j], P => P (.int (if j > i then j else i))
  | .min2, [.int i, .int j], P => P (.int (if j < i then j else i))
  | .maxl, [.lst ds], P => ∃ ns, intsD ds = some ns ∧ ns ≠ [] ∧ ∀ m, m ∈ ns → (∀ a ∈ ns, a ≤ m) → P (.int m)
  | .minl, [.lst ds], P => ∃ ns, intsD ds = some ns ∧ ns ≠ [] ∧ ∀ m, m ∈ ns → (∀ a ∈ ns, m ≤ a) → P (.int m)
  | .isi t, [d], P => noIns d = true ∧ P (.bl (isiD t d))
  | _, _, _ => False
def isStrD : D → Bool
  | .str _ => true
  | _ => false
inductive MT where
  | upper | lower | islower | isupper | isdigit | isalnum | split | join | replace
  deriving DecidableEq
def joinD (s : List Nat) : List (List Nat) → List Nat
  | [] => []
  | [x] => x
  | x :: y :: r => x ++ s ++ joinD s (y :: r)
def mtP : MT → D → List D → (D → Prop) → Prop
  | .upper, .str s, [], P => s.length ≤ 5592405 ∧ s.all (· < 128) = true ∧ P (.str (s.map PyProof.Rows.up1))
  | .lower, .str s, [], P => s.length ≤ 5592405 ∧ P (.str (Txt.lower (St s)).cps.toList)
  | .islower, .str s, [], P => P (.bl (Txt.islower (St s)))
  | .isupper, .str s, [], P => P (.bl (Txt.isupper (St s)))
  | .isdigit, .str s, [], P => P (.bl (Txt.isdigit (St s)))
  | .isalnum, .str s, [], P => P (.bl (Txt.isalnum (St s)))
  | .split, .str s, [.str b], P => b ≠ [] ∧ s.length + 2 ≤ line ∧ P (.lst ((Txt.split (St s) (St b)).map fun x => .str x.cps.toList))
  | .join, .str s, [.lst ds], P => ∃ ys, strs? ds = some ys ∧ (ys.map List.length).sum + ys.length * s.length ≤ line ∧ P (.str (Txt.join (St s) (ys.map St)).cps.toList)
  | _, _, _, _ => False

/-! ### the small language -/
mutual
inductive E where
  | v (i : Nat) | o (i : Nat) | k (d : D) | g (n : Nat)
  | bin (p : BOp) (a b : E) | neg (a : E)
  | cmp (p : COp) (a b : E) | cmp2 (p q : COp) (a b c : E)
  | and (a b : E) | or (a b : E) | not (a : E) | ite (c a b : E)
  | tup (es : Es) | lst (es : Es)
  | ix (a i : E) | sl (a : E) (lo hi : Oe)
  | call (n : Nat) (es : Es)
  | bi (f : BI) (es : Es)
  | mt (m : MT) (a : E) (es : Es)
  | lc (own : List Nat) (it : It) (tg : Tg) (c : Oe) (e : E)
  | lrng (a : E) | dic (k v : E) | dce | ise (i : Nat) (cs : List Nat)
inductive Es where
  | nil | cons (e : E) (es : Es)
inductive Oe where
  | none | some (e : E)
inductive It where
  | of (e : E) | rng1 (a : E) | rng2 (a b : E) | enum (a : E) | zip2 (a b : E) | zip3 (a b c : E)
inductive Tg where
  | x (i : Nat) | xs (is : List Nat)
end

/-- what an operand stands for: a value, or the own list of a name as it is when it is asked -/
inductive Od where
  | val (x : D) | own (i : Nat)
def svP (s : Option Sl) (P : D → Prop) : Prop :=
  match s with
  | some (.val d) => P d
  | some (.lst ds) => P (.lst ds)
  | some (.dct ks vs) => P (.dct ks vs)
  | some (.ins c ns vs) => P (.ins c ns vs)
  | _ => False
def odP (ρ : Env) (o : Od) (P : D → Prop) : Prop :=
  match o with
  | .val x => P x
  | .own i => svP ρ[i]? P
def odsP (ρ : Env) : List Od → (List D → Prop) → Prop
  | [], P => P []
  | o :: os, P => odP ρ o fun d => odsP ρ os fun ds => P (d :: ds)
/-- a def's promise over trees -/
structure PSpec where
  ar : Nat
  G : Type
  pre : G → List D → Prop
  ret : G → D → Prop
  exc : G → Nat → Prop := fun _ _ => False
structure Sm where
  fn : List PSpec
  cn : List D
  exc : Option (Nat × Nat) := none
  xr : List Nat := []
/-- classes of errors by numbers: 0 stands above 1 .. 5, 6 above all -/
def subX (n m : Nat) : Bool := m == 0 || m == 6 || n == m
abbrev EK := D → Env → Prop
abbrev XKn := Nat → Env → Prop
abbrev WE := Env → EK → XKn → Prop
abbrev OK_ := Od → Env → Prop
def opE (a : E) (w : WE) (ρ : Env) (Ω : OK_) (Ψ : XKn) : Prop :=
  match a with
  | .o i => (match ρ[i]? with | some (.lst _) => True | some (.dct _ _) => True | some (.ins _ _ _) => True | _ => False) ∧ Ω (.own i) ρ
  | _ => w ρ (fun d ρ' => Ω (.val d) ρ') Ψ
def varP (ρ : Env) (i : Nat) (Φ : EK) : Prop :=
  match ρ[i]? with
  | some (.val d) => Φ d ρ
  | some (.lst ds) => Φ (.lst ds) (ρ.set i (.val (.lst ds)))
  | _ => False
def setsT : Env → List Nat → List D → Option Env
  | ρ, [], [] => some ρ
  | ρ, i :: is, d :: ds => setsT (ρ.set i (.val d)) is ds
  | _, _, _ => none
/-- a target takes a value -/
def tgP : Tg → D → Env → (Env → Prop) → Prop
  | .x i, d, ρ, P => P (ρ.set i (.val d))
  | .xs is, .tup ds, ρ, P => ∃ ρ', setsT ρ is ds = some ρ' ∧ P ρ'
  | .xs _, _, _, _ => False
def wipeE (ρ : Env) : List Nat → Env
  | [] => ρ
  | v :: vs => (wipeE ρ vs).set v .no
def wipeOk (ρ : Env) (own : List Nat) : Bool := own.all fun i => match ρ[i]? with | some (.lst _) => false | some (.dct _ _) => false | some (.ins _ _ _) => false | _ => true
/-- a list that comes of another, item by item: kept ones turned, others left out -/
inductive Fm (R : D → Option D → Prop) : List D → List D → Prop where
  | nil : Fm R [] []
  | skip {d ds es} : R d none → Fm R ds es → Fm R (d :: ds) es
  | keep {d e ds es} : R d (some e) → Fm R ds es → Fm R (d :: ds) (e :: es)
def enumD (n : Nat) : List D → List D
  | [] => []
  | d :: ds => .tup [.int n, d] :: enumD (n + 1) ds
def zip2D : List D → List D → List D
  | a :: as, b :: bs => .tup [a, b] :: zip2D as bs
  | _, _ => []
def zip3D : List D → List D → List D → List D
  | a :: as, b :: bs, c :: cs => .tup [a, b, c] :: zip3D as bs cs
  | _, _, _ => []
def rngD (a b : Int) : List D := (List.range (b - a).toNat).map fun i => .int (a + (i : Nat))
def itemsD : D → Option (List D)
  | .lst ds => some ds
  | .tup ds => some ds
  | .str s => some (s.map fun c => .str [c])
  | _ => none
def notTupD : D → Bool
  | .tup _ => false
  | _ => true
def Rg (a : Int) : Prop := -(2 ^ 60) ≤ a ∧ a < 2 ^ 60

mutual
def wpE (sm : Sm) : E → WE
  | .v i, ρ, Φ, _ => varP ρ i Φ
  | .o _, _, _, _ => False
  | .k d, ρ, Φ, _ => Φ d ρ
  | .g n, ρ, Φ, _ => ∃ d, sm.cn[n]? = some d ∧ Φ d ρ
  | .bin p a b, ρ, Φ, Ψ => opE a (wpE sm a) ρ (fun oa ρ1 => opE b (wpE sm b) ρ1 (fun ob ρ2 => odP ρ2 oa fun x => odP ρ2 ob fun y => binP p x y fun d => Φ d ρ2) Ψ) Ψ
  | .neg a, ρ, Φ, Ψ => wpE sm a ρ (fun d ρ' => ∃ i, d = .int i ∧ Φ (.int (-i)) ρ') Ψ
  | .cmp p a b, ρ, Φ, Ψ => opE a (wpE sm a) ρ (fun oa ρ1 => opE b (wpE sm b) ρ1 (fun ob ρ2 => odP ρ2 oa fun x => odP ρ2 ob fun y => cmpP p x y fun c => Φ (.bl c) ρ2) Ψ) Ψ
  | .cmp2 p q a b c, ρ, Φ, Ψ => wpE sm a ρ (fun da ρ1 => wpE sm b ρ1 (fun db ρ2 => cmpP p da db (fun k => if k = true then wpE sm c ρ2 (fun dc ρ3 => cmpP q db dc (fun k' => Φ (.bl k') ρ3)) Ψ else Φ (.bl false) ρ2)) Ψ) Ψ
  | .and a b, ρ, Φ, Ψ => wpE sm a ρ (fun d ρ' => ∃ c, d = .bl c ∧ if c = true then wpE sm b ρ' (fun d' ρ'' => ∃ c', d' = .bl c' ∧ Φ (.bl c') ρ'') Ψ else Φ (.bl false) ρ') Ψ
  | .or a b, ρ, Φ, Ψ => wpE sm a ρ (fun d ρ' => ∃ c, d = .bl c ∧ if c = true then Φ (.bl true) ρ' else wpE sm b ρ' (fun d' ρ'' => ∃ c', d' = .bl c' ∧ Φ (.bl c') ρ'') Ψ) Ψ
  | .not a, ρ, Φ, Ψ => wpE sm a ρ (fun d ρ' => ∃ c, d = .bl c ∧ Φ (.bl (!c)) ρ') Ψ
  | .ite c a b, ρ, Φ, Ψ => wpE sm c ρ (fun d ρ' => ∃ k, d = .bl k ∧ if k = true then wpE sm a ρ' Φ Ψ else wpE sm b ρ' Φ Ψ) Ψ
  | .tup es, ρ, Φ, Ψ => wpEs sm es ρ (fun ds ρ' => ds.length ≤ line ∧ Φ (.tup ds) ρ') Ψ
  | .lst es, ρ, Φ, Ψ => wpEs sm es ρ (fun ds ρ' => ds.length ≤ line ∧ Φ (.lst ds) ρ') Ψ
  | .ix a i, ρ, Φ, Ψ => opE a (wpE sm a) ρ (fun oa ρ1 => wpE sm i ρ1 (fun di ρ2 => odP ρ2 oa fun x => ixP x di fun d => Φ d ρ2) Ψ) Ψ
  | .sl a lo hi, ρ, Φ, Ψ => opE a (wpE sm a) ρ (fun oa ρ1 => wpOe sm lo ρ1 (fun l ρ2 => wpOe sm hi ρ2 (fun h ρ3 => odP ρ3 oa fun x => slP x l h fun d => Φ d ρ3) Ψ) Ψ) Ψ
  | .call n es, ρ, Φ, Ψ => wpEs sm es ρ (fun ds ρ' => ∃ sp, sm.fn[n]? = some sp ∧ ds.length = sp.ar ∧ ∃ g, sp.pre g ds ∧ (∀ d, sp.ret g d → Φ d ρ') ∧ ∀ c, sp.exc g c → Ψ c ρ') Ψ
  | .bi f es, ρ, Φ, Ψ => wpOs sm es ρ (fun os ρ' => odsP ρ' os fun ds => biP f ds fun d => Φ d ρ') Ψ
  | .mt m a es, ρ, Φ, Ψ => wpE sm a ρ (fun d ρ1 => isStrD d = true ∧ wpOs sm es ρ1 (fun os ρ' => odsP ρ' os fun ds => mtP m d ds fun d' => Φ d' ρ') Ψ) Ψ
  | .lc own it tg c e, ρ, Φ, Ψ => wpIt sm it ρ (fun ds ρ1 => ds.length ≤ line ∧ wipeOk ρ1 own = true ∧ ∃ R : D → Option D → Prop, (∀ d ∈ ds, tgP tg d (wipeE ρ1 own) fun ρ2 =>
        wpIf sm c ρ2 (fun k ρ3 => ρ3 = ρ2 ∧ if k = true then wpE sm e ρ3 (fun d' ρ4 => ρ4 = ρ3 ∧ R d (some d')) (fun _ _ => False) else R d none) (fun _ _ => False)) ∧
      ∀ es, Fm R ds es → Φ (.lst es) ρ1) Ψ
  | .dce, ρ, Φ, _ => Φ (.dct [] []) ρ
  | .ise i cs, ρ, Φ, _ => ∃ a n, sm.exc = some (a, n) ∧ ρ[i]? = some (.exc a) ∧ Φ (.bl (cs.any fun m => subX n m)) ρ
  | .dic a b, ρ, Φ, Ψ => wpE sm a ρ (fun dk ρ1 => wpE sm b ρ1 (fun dv ρ2 => isStrD dk = true ∧ Φ (.dct [dk] [dv]) ρ2) Ψ) Ψ
  | .lrng a, ρ, Φ, Ψ => wpE sm a ρ (fun d ρ' => ∃ i, d = .int i ∧ 0 ≤ i ∧ i ≤ line ∧ Φ (.lst (rngD 0 i)) ρ') Ψ
def wpEs (sm : Sm) : Es → Env → (List D → Env → Prop) → XKn → Prop
  | .nil, ρ, Φ, _ => Φ [] ρ
  | .cons e es, ρ, Φ, Ψ => wpE sm e ρ (fun d ρ' => wpEs sm es ρ' (fun ds ρ'' => Φ (d :: ds) ρ'') Ψ) Ψ
def wpOs (sm : Sm) : Es → Env → (List Od → Env → Prop) → XKn → Prop
  | .nil, ρ, Φ, _ => Φ [] ρ
  | .cons e es, ρ, Φ, Ψ => opE e (wpE sm e) ρ (fun d ρ' => wpOs sm es ρ' (fun ds ρ'' => Φ (d :: ds) ρ'') Ψ) Ψ
def wpOe (sm : Sm) : Oe → Env → (Option Int → Env → Prop) → XKn → Prop
  | .none, ρ, Φ, _ => Φ none ρ
  | .some e, ρ, Φ, Ψ => wpE sm e ρ (fun d ρ' => ∃ i, d = .int i ∧ Φ (some i) ρ') Ψ
def wpIf (sm : Sm) : Oe → Env → (Bool → Env → Prop) → XKn → Prop
  | .none, ρ, Φ, _ => Φ true ρ
  | .some e, ρ, Φ, Ψ => wpE sm e ρ (fun d ρ' => ∃ c, d = .bl c ∧ Φ c ρ') Ψ
def wpIt (sm : Sm) : It → Env → (List D → Env → Prop) → XKn → Prop
  | .of e, ρ, Φ, Ψ => wpE sm e ρ (fun d ρ' => ∃ ds, itemsD d = some ds ∧ Φ ds ρ') Ψ
  | .rng1 a, ρ, Φ, Ψ => wpE sm a ρ (fun d ρ' => ∃ i, d = .int i ∧ Rg i ∧ Φ (rngD 0 i) ρ') Ψ
  | .rng2 a b, ρ, Φ, Ψ => wpE sm a ρ (fun d ρ1 => wpE sm b ρ1 (fun d' ρ' => ∃ i j, d = .int i ∧ d' = .int j ∧ Rg i ∧ Rg j ∧ Φ (rngD i j) ρ') Ψ) Ψ
  | .enum e, ρ, Φ, Ψ => wpE sm e ρ (fun d ρ' => ∃ ds, itemsD d = some ds ∧ notTupD d = true ∧ Φ (enumD 0 ds) ρ') Ψ
  | .zip2 a b, ρ, Φ, Ψ => wpE sm a ρ (fun d ρ1 => wpE sm b ρ1 (fun d' ρ' => ∃ x y, itemsD d = some x ∧ itemsD d' = some y ∧ Φ (zip2D x y) ρ') Ψ) Ψ
  | .zip3 a b c, ρ, Φ, Ψ => wpE sm a ρ (fun d ρ1 => wpE sm b ρ1 (fun d' ρ2 => wpE sm c ρ2 (fun d'' ρ' => ∃ x y z, itemsD d = some x ∧ itemsD d' = some y ∧ itemsD d'' = some z ∧ Φ (zip3D x y z) ρ') Ψ) Ψ) Ψ
end

/-! ### statements -/
mutual
inductive S where
  | set (i : Nat) (e : E) | new (i : Nat) (e : E) | unp (is : List Nat) (e : E)
  | app (i : Nat) (e : E) | seti (i : Nat) (k e : E)
  | ret (e : E) | retn | ife (c : E) (a b : Ss)
  | for_ (tg : Tg) (it : It) (b : Ss) | whl (c : E) (b : Ss)
  | ex (e : E) | pas | brk | cnt | rse (n : Nat) | nev | tri (b : Ss) (m : Nat) (nm : Option Nat) (h : Ss)
inductive Ss where
  | nil | cons (s : S) (r : Ss)
end
/-- what is wanted behind a statement -/
structure Pt where
  nx : Env → Prop
  rt : EK
  bk : Env → Prop := fun _ => False
  ct : Env → Prop := fun _ => False
  xc : XKn := fun _ _ => False
def isLstS : Option Sl → Bool
  | some (.lst _) => true
  | _ => false
mutual
def wpS : Sm → S → Env → Pt → Prop
  | sm, .set i e, ρ, P => wpE sm e ρ (fun d ρ' => P.nx (ρ'.set i (.val d))) P.xc
  | sm, .new i e, ρ, P => wpE sm e ρ (fun d ρ' => ∃ ds, d = .lst ds ∧ i < ρ'.length ∧ P.nx (ρ'.set i (.lst ds))) P.xc
  | sm, .unp is e, ρ, P => wpE sm e ρ (fun d ρ' => tgP (.xs is) d ρ' P.nx) P.xc
  | sm, .app i e, ρ, P => isLstS ρ[i]? = true ∧ wpE sm e ρ (fun d ρ' => ∃ ds, ρ'[i]? = some (.lst ds) ∧ ds.length < line ∧ P.nx (ρ'.set i (.lst (ds ++ [d])))) P.xc
  | sm, .seti i k e, ρ, P => wpE sm e ρ (fun d ρ1 => isLstS ρ1[i]? = true ∧ wpE sm k ρ1 (fun dk ρ' => ∃ ds n j, dk = .int n ∧ ρ'[i]? = some (.lst ds) ∧ ixN ds.length n = some j ∧ P.nx (ρ'.set i (.lst (ds.set j d)))) P.xc) P.xc
  | sm, .ret e, ρ, P => wpE sm e ρ P.rt P.xc
  | sm, .retn, ρ, P => P.rt .non ρ
  | sm, .ife c a b, ρ, P => wpE sm c ρ (fun d ρ' => ∃ k, d = .bl k ∧ if k = true then wpSs sm a ρ' P else wpSs sm b ρ' P) P.xc
  | sm, .for_ tg it b, ρ, P => wpIt sm it ρ (fun ds ρ1 => ∃ I : Nat → Env → Prop, I 0 ρ1 ∧
      (∀ i d ρ, ds[i]? = some d → I i ρ → tgP tg d ρ fun ρ2 => wpSs sm b ρ2 { nx := I (i + 1), rt := P.rt, bk := P.nx, ct := I (i + 1), xc := P.xc }) ∧ ∀ ρ, I ds.length ρ → P.nx ρ) P.xc
  | sm, .whl c b, ρ, P => ∃ I : Nat → Env → Prop, (∃ m, I m ρ) ∧ ∀ m ρ, I m ρ → wpE sm c ρ (fun d ρ' => ∃ k, d = .bl k ∧
      if k = true then wpSs sm b ρ' { nx := fun ρ2 => ∃ m', m' < m ∧ I m' ρ2, rt := P.rt, bk := P.nx, ct := fun ρ2 => ∃ m', m' < m ∧ I m' ρ2, xc := P.xc } else P.nx ρ') P.xc
  | sm, .ex e, ρ, P => wpE sm e ρ (fun _ ρ' => P.nx ρ') P.xc
  | sm, .pas, ρ, P => P.nx ρ
  | sm, .brk, ρ, P => P.bk ρ
  | sm, .cnt, ρ, P => P.ct ρ
  | sm, .rse n, ρ, P => P.xc n ρ
  | _, .nev, _, _ => False
  | sm, .tri b m nm h, ρ, P => wpSs sm b ρ { P with xc := fun c ρ' => c ∈ sm.xr ∧ if subX c m = true then (∀ a, match nm with
    | none => wpSs { sm with exc := none } h ρ' { P with xc := fun _ _ => False }
    | some i => wpSs { sm with exc := some (a, c) } h (ρ'.set i (.exc a)) { nx := fun ρ2 => P.nx (ρ2.set i .no), rt := P.rt, bk := fun ρ2 => P.bk (ρ2.set i .no), ct := fun ρ2 => P.ct (ρ2.set i .no), xc := fun _ _ => False }) else P.xc c ρ' }
def wpSs : Sm → Ss → Env → Pt → Prop
  | sm, .nil, ρ, P => P.nx ρ
  | sm, .cons s r, ρ, P => wpS sm s ρ { P with nx := fun ρ' => wpSs sm r ρ' P }
end
end Ts
set_option Elab.async false
set_option linter.all false
set_option maxRecDepth 100000
set_option maxHeartbeats 4000000
/-! Ts, third part: the operations on trees are what the machine does. -/
namespace Ts
open PySem L2

/-! ### data -/
theorem eqv_nn : ∀ {x y : D}, True := trivial
mutual
theorem eqv_eqD : ∀ (n m : Nat) (x y : D), okN n x = true → okN m y = true → PyData.eqv (toP x) (toP y) = eqD x y
  | n, m, x, y, hx, hy => by
    cases x with
    | non => cases y <;> first | (simp [toP, eqD, PyData.eqv]; done) | (cases m <;> simp [okN] at hy)
    | bl a => cases y <;> first | (simp [toP, eqD, PyData.eqv]; done) | (cases m <;> simp [okN] at hy)
    | int a => cases y <;> first | (simp [toP, eqD, PyData.eqv]; done) | (cases m <;> simp [okN] at hy)
    | str a =>
      cases y with
      | str b =>
        simp only [toP, eqD, PyData.eqv]
        by_cases h : a = b
        · subst h; simp
        · rw [beq_eq_false_iff_ne.mpr h]
          refine beq_eq_false_iff_ne.mpr fun e => h ?_
          have := congrArg (fun z => z.cps.toList) e
          simpa [St] using this
      | _ => first | (simp [toP, eqD, PyData.eqv]; done) | (cases m <;> simp [okN] at hy)
    | lst xs =>
      cases y with
      | lst ys =>
        cases n with
        | zero => simp [okN] at hx
        | succ n =>
          cases m with
          | zero => simp [okN] at hy
          | succ m =>
            simp only [toP, eqD, PyData.eqv]
            simp only [okN] at hx hy
            exact eqvs_eqDs n m xs ys hx hy
      | _ => first | (simp [toP, eqD, PyData.eqv]; done) | (cases m <;> simp [okN] at hy)
    | tup xs =>
      cases y with
      | tup ys =>
        cases n with
        | zero => simp [okN] at hx
        | succ n =>
          cases m with
          | zero => simp [okN] at hy
          | succ m =>
            simp only [toP, eqD, PyData.eqv]
            simp only [okN] at hx hy
            exact eqvs_eqDs n m xs ys hx hy
      | _ => first | (simp [toP, eqD, PyData.eqv]; done) | (cases m <;> simp [okN] at hy)
    | dct ks vs => cases n <;> simp [okN] at hx
    | ins c ns vs => cases n <;> simp [okN] at hx
  termination_by n _ x => (sizeOf x, 0)
  decreasing_by all_goals (subst_vars; simp_wf; omega)
theorem eqvs_eqDs : ∀ (n m : Nat) (xs ys : List D), xs.all (okN n) = true → ys.all (okN m) = true → PyData.eqvAll (toPs xs) (toPs ys) = eqDs xs ys
  | n, m, [], [], _, _ => by simp [toPs, eqDs, PyData.eqvAll]
  | n, m, [], _ :: _, _, _ => by simp [toPs, eqDs, PyData.eqvAll]
  | n, m, _ :: _, [], _, _ => by simp [toPs, eqDs, PyData.eqvAll]
  | n, m, x :: xs, y :: ys, hx, hy => by
    simp only [List.all_cons, Bool.and_eq_true] at hx hy
    simp only [toPs, eqDs, PyData.eqvAll]
    rw [eqv_eqD n m x y hx.1 hy.1, eqvs_eqDs n m xs ys hx.2 hy.2]
  termination_by n _ xs => (sizeOf xs, 1)
end
mutual
theorem lay_of : ∀ (n : Nat) (x : D), okN n x = true → PyData.canLay0 (toP x) = true ∧ PyData.depth (toP x) ≤ n
  | n, x, hx => by
    cases x with
    | non => simp [toP, PyData.canLay0, PyData.depth]
    | bl a => simp [toP, PyData.canLay0, PyData.depth]
    | int a => simp [toP, PyData.canLay0, PyData.depth]
    | str a =>
      have h : (a.all fun c => decide (c < 0x110000)) = true := by cases n <;> simpa [okN] using hx
      refine ⟨?_, by simp [toP, PyData.depth]⟩
      simp only [toP, PyData.canLay0]
      unfold PyData.strOk St
      simpa using h
    | lst xs =>
      cases n with
      | zero => simp [okN] at hx
      | succ n =>
        simp only [okN] at hx
        have q := lays_of n xs hx
        simp only [toP, PyData.canLay0, PyData.depth]
        exact ⟨q.1, by omega⟩
    | tup xs =>
      cases n with
      | zero => simp [okN] at hx
      | succ n =>
        simp only [okN] at hx
        have q := lays_of n xs hx
        simp only [toP, PyData.canLay0, PyData.depth]
        exact ⟨q.1, by omega⟩
    | dct ks vs => cases n <;> simp [okN] at hx
    | ins c ns vs => cases n <;> simp [okN] at hx
  termination_by n x => (sizeOf x, 0)
  decreasing_by all_goals (subst_vars; simp_wf; omega)
theorem lays_of : ∀ (n : Nat) (xs : List D), xs.all (okN n) = true → PyData.canLayAll0 (toPs xs) = true ∧ PyData.depthAll (toPs xs) ≤ n
  | n, [], _ => by simp [toPs, PyData.canLayAll0, PyData.depthAll]
  | n, x :: xs, hx => by
    simp only [List.all_cons, Bool.and_eq_true] at hx
    have h1 := lay_of n x hx.1
    have h2 := lays_of n xs hx.2
    simp only [toPs, PyData.canLayAll0, PyData.depthAll]
    refine ⟨by rw [h1.1, h2.1]; rfl, ?_⟩
    omega
  termination_by n xs => (sizeOf xs, 1)
end
theorem shaped_of {n : Nat} (hn : n ≤ 64) {x : D} (h : okN n x = true) : SeqAt.shaped (toP x) = true := by
  have q := lay_of n x h
  unfold SeqAt.shaped
  rw [q.1, Bool.true_and, decide_eq_true_eq]
  omega

section
variable {K : PySem.W.Frag} {H F : Hp}
mutual
theorem Rep.dp (n : Nat) : ∀ {d : D} {v : V}, okN n d = true → Rep K H d v → Dp K H v (toP d)
  | .non, _, _, h => by rw [show _ = _ from h]; exact .non
  | .bl b, _, _, h => by rw [show _ = _ from h]; exact .bl b
  | .int i, _, _, h => by rw [show _ = _ from h]; exact .int i
  | .str s, _, _, h => by rw [show _ = _ from h]; exact .str _
  | .lst ds, _, q, ⟨a, vs, e, h1, h2⟩ => by
    subst e
    cases n with
    | zero => simp [okN] at q
    | succ n =>
      simp only [okN] at q
      simp only [toP]
      exact .lst h1 (RepL.dp n q h2)
  | .tup ds, _, q, ⟨a, vs, e, h1, h2⟩ => by
    subst e
    cases n with
    | zero => simp [okN] at q
    | succ n =>
      simp only [okN] at q
      simp only [toP]
      exact .tup h1 (RepL.dp n q h2)
  | .dct _ _, _, q, _ => by cases n <;> simp [okN] at q
  | .ins _ _ _, _, q, _ => by cases n <;> simp [okN] at q
theorem RepL.dp (n : Nat) : ∀ {ds : List D} {vs : List V}, ds.all (okN n) = true → RepL K H ds vs → DpAll K H vs (toPs ds)
  | [], _, _, h => by rw [show _ = _ from h]; exact .nil
  | d :: ds, _, q, ⟨v, r, e, h1, h2⟩ => by
    subst e
    simp only [List.all_cons, Bool.and_eq_true] at q
    simp only [toPs]
    exact .cons (Rep.dp n q.1 h1) (RepL.dp n q.2 h2)
end
end
end Ts
set_option Elab.async false
set_option linter.all false
set_option maxRecDepth 100000
set_option maxHeartbeats 4000000
/-! Ts, fourth part: each operation by its rule. -/
namespace Ts
open PySem L2
theorem line_eq : sizeLine = line := by decide
/-- v stands for d; its items are known, it itself may be a def's own -/
def RepT (K : PySem.W.Frag) (F H : Hp) : D → V → Prop
  | .lst ds, v => ∃ a vs, v = .ref a ∧ SqL K H a vs ∧ RepL K F ds vs
  | .dct ks ds, v => ∃ a kvs, v = .ref a ∧ Rd H a (.dK kvs) ∧ ks = kvs.map (fun p => keyD p.1) ∧ RepL K F ds (kvs.map (·.2))
  | .ins c ns ds, v => ∃ a dx fs, v = .ref a ∧ H a = some (.ins c dx fs) ∧ ns = fs.map (·.1) ∧ RepL K F ds (fs.map (·.2))
  | d, v => Rep K F d v
section
variable {K : PySem.W.Frag} {F H F' H' : Hp} {d : D} {v : V}
theorem Rep.t (ex : Ex F H) (h : Rep K F d v) : RepT K F H d v := by
  cases d with
  | lst ds => obtain ⟨a, vs, h1, h2, h3⟩ := h; exact ⟨a, vs, h1, ex_l ex h2, h3⟩
  | dct ks ds => obtain ⟨a, vs, h1, h2, h3, h4⟩ := h; exact ⟨a, vs, h1, ex_rd ex h2, h3, h4⟩
  | ins c ns ds => obtain ⟨a, dx, vs, h1, h2, h3, h4⟩ := h; exact ⟨a, dx, vs, h1, ex _ _ h2, h3, h4⟩
  | _ => exact h
theorem RepT.h (ex : Ex F H) (h : RepT K F H d v) : Rep K H d v := by
  cases d with
  | lst ds => obtain ⟨a, vs, h1, h2, h3⟩ := h; exact ⟨a, vs, h1, h2, h3.mono ex⟩
  | dct ks ds => obtain ⟨a, vs, h1, h2, h3, h4⟩ := h; exact ⟨a, vs, h1, h2, h3, h4.mono ex⟩
  | ins c ns ds => obtain ⟨a, dx, vs, h1, h2, h3, h4⟩ := h; exact ⟨a, dx, vs, h1, h2, h3, h4.mono ex⟩
  | _ => exact Rep.mono ex h
end
def Opn (X : Cx) (f : Value → Value → Sem Value) (x y : V) (H : Hp) (Q : VK) : Prop :=
  ∀ pins s σ v u, Inv X pins σ H s → RelV x v → RelV y u → wpAny (model X.prog X.w) X.A (f v u) (EP X pins σ Q) X.xe s
theorem Opn.of {X : Cx} {f : Value → Value → Sem Value} {r : R2} (h : OpR X f r) {x y : V} {H : Hp} {Q : VK} (q : r x y H Q) : Opn X f x y H Q :=
  fun pins s σ v u I r1 r2 => h pins s σ H x y v u Q I r1 r2 q
def bopS : BOp → Operator
  | .add => .Add | .sub => .Sub | .mul => .Mult | .fdiv => .FloorDiv | .mod => .Mod | .pow => .Pow
def copS : COp → CmpOp
  | .eq => .Eq | .ne => .NotEq | .lt => .Lt | .le => .LtE | .gt => .Gt | .ge => .GtE | .is => .Is | .isn => .IsNot | .in_ => .In | .nin => .NotIn
theorem St_append (a b : List Nat) : St a ++ St b = St (a ++ b) := by
  show Str.append (St a) (St b) = _
  simp [Str.append, St]
section
variable {X : Cx}
/-- list + list, whatever they are -/
theorem op_catL : OpR X (binaryOp .Add) (fun x y H Q => ∃ l b xs zs, x = .ref l ∧ y = .ref b ∧ SqL X.K H l xs ∧ SqL X.K H b zs ∧ xs.length + zs.length ≤ sizeLine ∧ ∀ p, H p = none → Q (.ref p) (upd H p (.lst (xs ++ zs)))) := by
  intro pins s σ H x y v u Q I rx ry h
  obtain ⟨l, b, xs, zs, rfl, rfl, hH, hB, hz, q⟩ := h
  cases rx
  cases ry
  obtain ⟨its, r, ⟨⟨c1, d1, t1, s1⟩, n, e, hc1, hd1, ht1⟩, z⟩ := I.list hH
  obtain ⟨its2, r2, ⟨⟨c2, d2, t2, s2⟩, n2, e2, hc2, hd2, ht2⟩, z2⟩ := I.list hB
  dsimp only at hc1 hd1 ht1 hc2 hd2 ht2
  subst hc1 hd1 ht1 hc2 hd2 ht2
  have L1 := r.length
  have L2' := r2.length
  have ea : its.toArray ++ its2.toArray = (its ++ its2).toArray := by simp
  refine concat_meets ⟨_, e, rfl⟩ ⟨_, e2, rfl⟩ noFill_list_add seq_list_add PySem.F.slot_list_add PySem.F.entry_list_add (PySem.F.args_list_add_2 _ _) (PyProof.Rows.list_addW l b its.toArray its2.toArray n n2 none none s1 s2 (by rw [List.size_toArray, List.size_toArray]; omega)) ⟨e, e2, ?_⟩
  rw [ea]
  exact ⟨.ref _, _, I.lnew (t' := s.toks) (r.append r2) (by rw [List.length_append]; omega), rfl, q _ I.fresh⟩

theorem mulOk_of {i j : Int} (h : MulOk i j) : IntMulOk i j := IntMulOk.of_le (Nat.le_refl _) (Nat.le_refl _) h
theorem log2_of {i : Int} (h0 : 0 < i) (h : i < 2 ^ 256) : i.natAbs.log2 < 9000 := by
  have h1 : i.natAbs < 2 ^ 256 := by omega
  exact Nat.lt_trans ((Nat.log2_lt (by omega)).mpr h1) (by decide)
theorem op_mulO : OpR X (binaryOp .Mult) (rI MulOk fun i j => .int (i * j)) := opI fun _ _ _ _ _ _ _ hc q => PyProof.Rows.mul_int q (mulOk_of hc)
theorem op_fdivO : OpR X (binaryOp .FloorDiv) (rI (fun _ j => DivOk j) fun i j => .int (i / j)) := opI fun i j _ _ _ _ _ hc q => by
  have h1 : (0 : Int) < j := hc.1
  exact PyProof.Rows.floordiv_int (by omega) (by rw [Int.fdiv_eq_ediv_of_nonneg i (by omega)]; exact q) (.inl (PyProof.noPylong_of_log2 (log2_of hc.1 hc.2)))
theorem op_powO : OpR X (binaryOp .Pow) (rI PowOk fun i j => .int (i ^ j.toNat)) := opI fun i j _ _ _ _ _ hc q => by
  obtain ⟨h1, h2, h3, h4⟩ := hc
  exact PyProof.Rows.pow_int_small h1 (by omega) (by omega) q
theorem foldl_app (z : List Nat) : ∀ (n : Nat) (acc : Array Nat), ((List.replicate n z.toArray).foldl (· ++ ·) acc) = acc ++ ((List.replicate n z).flatten).toArray
  | 0, acc => by simp
  | n + 1, acc => by
    rw [List.replicate_succ, List.foldl_cons, foldl_app z n, List.replicate_succ, List.flatten_cons]
    simp
theorem op_repS : OpR X (binaryOp .Mult) (fun x y H Q => ∃ (a : List Nat) (k : Int), x = .str (St a) ∧ y = .int k ∧ 0 ≤ k ∧ k ≤ 1000 ∧ a.length ≤ 1000 ∧ Q (.str (St (rep a k))) H) := by
  intro pins s σ H x y v u Q I rx ry h
  obtain ⟨a, k, rfl, rfl, h0, h1, h2, q⟩ := h
  obtain ⟨t, rfl⟩ := rx
  obtain ⟨t', rfl⟩ := ry
  have hl : (St a).length = a.length := St_len a
  have small : a.length * k.toNat ≤ 1000000 := Nat.le_trans (Nat.mul_le_mul h2 (by omega : k.toNat ≤ 1000)) (by decide)
  refine PySem.P.mul_str (by
      have e1 : ¬ k < -(2 ^ 63 : Int) := by omega
      have e2 : ¬ k ≥ 2 ^ 63 := by omega
      rw [decide_eq_false e1, decide_eq_false e2]; rfl) (fun _ _ => ?_) (fun _ _ => ?_) ?_
  · rw [hl]
    have : (1000 : Int) ≤ (2 ^ 63 - 1) / k := by
      rename_i g _
      rw [Int.le_ediv_iff_mul_le (by omega)]
      omega
    omega
  · rw [hl]
    unfold Builtin.Str.tooLong
    rw [decide_eq_false_iff_not]
    have := sizeLine_eq
    omega
  · by_cases g : k < 1
    · rw [if_pos g]
      have e : k = 0 := by omega
      subst e
      exact ⟨by decide, ⟨.str (St (rep a 0)), H, I.tok _, ⟨_, rfl⟩, q⟩⟩
    · rw [if_neg g]
      by_cases g2 : (k == 1 || (St a).length == 0) = true
      · rw [if_pos g2]
        have e : St (rep a k) = St a := by
          rw [Bool.or_eq_true, beq_iff_eq, beq_iff_eq] at g2
          rcases g2 with g2 | g2
          · subst g2; simp [rep]
          · rw [hl] at g2
            have : a = [] := List.length_eq_zero_iff.mp g2
            subst this
            simp [rep]
        refine ⟨.str (St (rep a k)), H, I, ?_, q⟩
        rw [e]
        exact ⟨_, rfl⟩
      · rw [if_neg g2]
        have e : (⟨(List.replicate k.toNat (St a).cps).foldl (· ++ ·) #[]⟩ : Str) = St (rep a k) := by
          show (⟨(List.replicate k.toNat a.toArray).foldl (· ++ ·) #[]⟩ : Str) = _
          rw [foldl_app]
          simp [St, rep]
        rw [e]
        refine ⟨?_, ⟨.str (St (rep a k)), H, I.tok _, ⟨_, rfl⟩, q⟩⟩
        have hlen : (rep a k).length = k.toNat * a.length := by simp [rep]
        rw [St_len, hlen, Nat.mul_comm]
        have := sizeLine_eq
        omega

/-- what an operation asks: a value known, in a heap that only grew -/
def Kn (K : PySem.W.Frag) (F H : Hp) (P : D → Prop) (Q : VK) : Prop := ∀ d v F' H', Ext F H F' H' → Rep K F' d v → P d → Q v H'
theorem Kn.here {K : PySem.W.Frag} {F H : Hp} {P : D → Prop} {Q : VK} (k : Kn K F H P Q) (ex : Ex F H) {d : D} {v : V} (r : Rep K F d v) (p : P d) : Q v H := k d v F H (Ext.refl ex) r p
theorem Kn.int {K : PySem.W.Frag} {F H : Hp} {P : D → Prop} {Q : VK} (k : Kn K F H P Q) (ex : Ex F H) {i : Int} (p : P (.int i)) : Q (.int i) H := k.here (d := .int i) ex rfl p
theorem Kn.str {K : PySem.W.Frag} {F H : Hp} {P : D → Prop} {Q : VK} (k : Kn K F H P Q) (ex : Ex F H) {i : List Nat} (p : P (.str i)) : Q (.str (St i)) H := k.here (d := .str i) ex rfl p
theorem Kn.bl {K : PySem.W.Frag} {F H : Hp} {P : D → Prop} {Q : VK} (k : Kn K F H P Q) (ex : Ex F H) {i : Bool} (p : P (.bl i)) : Q (.bl i) H := k.here (d := .bl i) ex rfl p
theorem Kn.lst {K : PySem.W.Frag} {F H : Hp} {P : D → Prop} {Q : VK} (k : Kn K F H P Q) (ex : Ex F H) {ds : List D} {vs : List V} (r : RepL K F ds vs) (p : P (.lst ds)) : ∀ q, H q = none → Q (.ref q) (upd H q (.lst vs)) := fun q n => by
  have x := Ext.upd (o := .lst vs) ex n
  exact k (.lst ds) _ _ _ x ⟨q, vs, rfl, .of upd_same, r.mono x.exF⟩ p
theorem Kn.tup {K : PySem.W.Frag} {F H : Hp} {P : D → Prop} {Q : VK} (k : Kn K F H P Q) (ex : Ex F H) {ds : List D} {vs : List V} (r : RepL K F ds vs) (p : P (.tup ds)) : ∀ q, H q = none → Q (.ref q) (upd H q (.tup vs)) := fun q n => by
  have x := Ext.upd (o := .tup vs) ex n
  exact k (.tup ds) _ _ _ x ⟨q, vs, rfl, .of upd_same, r.mono x.exF⟩ p

theorem binP_ok {o : BOp} {dx dy : D} {P : D → Prop} {x y : V} {F H : Hp} {Q : VK} (h : binP o dx dy P) (rx : RepT X.K F H dx x) (ry : RepT X.K F H dy y) (ex : Ex F H) (k : Kn X.K F H P Q) : Opn X (binaryOp (bopS o)) x y H Q := by
  cases o with
  | add =>
    cases dx with
    | int a => cases dy with
      | int b => exact Opn.of op_add ⟨a, b, rx, ry, k.int ex h⟩
      | _ => exact False.elim h
    | str a => cases dy with
      | str b => exact Opn.of op_add_str ⟨_, _, rx, ry, by rw [St_len, St_len, line_eq]; exact h.1, by rw [St_append]; exact k.str ex h.2⟩
      | _ => exact False.elim h
    | lst a => cases dy with
      | lst b =>
        obtain ⟨l, xs, e1, q1, r1⟩ := rx
        obtain ⟨m, ys, e2, q2, r2⟩ := ry
        exact Opn.of op_catL ⟨l, m, xs, ys, e1, e2, q1, q2, by rw [r1.len, r2.len, line_eq]; exact h.1, k.lst ex (r1.app r2) h.2⟩
      | _ => exact False.elim h
    | tup a => cases dy with
      | tup b =>
        obtain ⟨l, xs, e1, q1, r1⟩ := rx
        obtain ⟨m, ys, e2, q2, r2⟩ := ry
        refine Opn.of op_catA ⟨l, m, xs, ys, e1, e2, ex_t ex q1, ex_t ex q2, by rw [r1.len, r2.len, line_eq]; exact h.1, fun z => ?_, fun _ z => ?_, fun _ _ => k.tup ex (r1.app r2) h.2⟩
        · have za : a = [] := by
            cases a with
            | nil => rfl
            | cons _ _ => have := r1.len; rw [z] at this; simp at this
          subst za
          exact k.here (d := .tup b) ex ⟨m, ys, rfl, q2, r2⟩ h.2
        · have zb : b = [] := by
            cases b with
            | nil => rfl
            | cons _ _ => have := r2.len; rw [z] at this; simp at this
          subst zb
          have h2 := h.2
          rw [List.append_nil] at h2
          exact k.here (d := .tup a) ex ⟨l, xs, rfl, q1, r1⟩ h2
      | _ => exact False.elim h
    | _ => cases dy <;> exact False.elim h
  | sub =>
    cases dx with
    | int a => cases dy with
      | int b => exact Opn.of op_sub ⟨a, b, rx, ry, k.int ex h⟩
      | _ => exact False.elim h
    | _ => cases dy <;> exact False.elim h
  | mul =>
    cases dx with
    | int a => cases dy with
      | int b => exact Opn.of op_mulO ⟨a, b, rx, ry, h.1, k.int ex h.2⟩
      | _ => exact False.elim h
    | str a => cases dy with
      | int b => exact Opn.of op_repS ⟨a, b, rx, ry, h.1, h.2.1, h.2.2.1, k.str ex h.2.2.2⟩
      | _ => exact False.elim h
    | _ => cases dy <;> exact False.elim h
  | fdiv =>
    cases dx with
    | int a => cases dy with
      | int b => exact Opn.of op_fdivO ⟨a, b, rx, ry, h.1, k.int ex h.2⟩
      | _ => exact False.elim h
    | _ => cases dy <;> exact False.elim h
  | mod =>
    cases dx with
    | int a => cases dy with
      | int b => exact Opn.of op_mod ⟨a, b, rx, ry, h.1, k.int ex h.2⟩
      | _ => exact False.elim h
    | _ => cases dy <;> exact False.elim h
  | pow =>
    cases dx with
    | int a => cases dy with
      | int b => exact Opn.of op_powO ⟨a, b, rx, ry, h.1, k.int ex h.2⟩
      | _ => exact False.elim h
    | _ => cases dy <;> exact False.elim h
end
end Ts
set_option Elab.async false
set_option linter.all false
set_option maxRecDepth 100000
set_option maxHeartbeats 4000000
/-! Ts, fifth part: comparisons, items, slices, built-ins, methods. -/
namespace Ts
open PySem PySem.Spec PyProof.Rows L2
section
variable {X : Cx}
/-- what stands for flat data -/
theorem flat_V {K : PySem.W.Frag} {H : Hp} {d : D} {v : V} (h : flatD d = true) (r : Rep K H d v) : flatV v = true := by
  cases d with
  | non => rw [show v = .non from r]; rfl
  | bl b => rw [show v = .bl b from r]; rfl
  | int b => rw [show v = .int b from r]; rfl
  | str b => rw [show v = .str (St b) from r]; rfl
  | _ => exact absurd (show false = true from h) Bool.false_ne_true
theorem St_beq (a b : List Nat) : (St a == St b) = (a == b) := by
  by_cases h : a = b
  · subst h; simp
  · rw [beq_eq_false_iff_ne.mpr h]
    refine beq_eq_false_iff_ne.mpr fun e => h ?_
    have := congrArg (fun z => z.cps.toList) e
    simpa [St] using this
theorem eqV_eqD {K : PySem.W.Frag} {H : Hp} {d e : D} {v u : V} (h : flatD d = true) (g : flatD e = true) (r : Rep K H d v) (q : Rep K H e u) : eqV v u = eqD d e := by
  cases d with
  | non => rw [show v = .non from r]; cases e with
    | non => rw [show u = .non from q]; rfl
    | bl b => rw [show u = .bl b from q]; rfl
    | int b => rw [show u = .int b from q]; rfl
    | str b => rw [show u = .str (St b) from q]; rfl
    | _ => exact absurd (show false = true from g) Bool.false_ne_true
  | bl x => rw [show v = .bl x from r]; cases e with
    | non => rw [show u = .non from q]; rfl
    | bl b => rw [show u = .bl b from q]; rfl
    | int b => rw [show u = .int b from q]; rfl
    | str b => rw [show u = .str (St b) from q]; rfl
    | _ => exact absurd (show false = true from g) Bool.false_ne_true
  | int x => rw [show v = .int x from r]; cases e with
    | non => rw [show u = .non from q]; rfl
    | bl b => rw [show u = .bl b from q]; rfl
    | int b => rw [show u = .int b from q]; rfl
    | str b => rw [show u = .str (St b) from q]; rfl
    | _ => exact absurd (show false = true from g) Bool.false_ne_true
  | str x => rw [show v = .str (St x) from r]; cases e with
    | non => rw [show u = .non from q]; rfl
    | bl b => rw [show u = .bl b from q]; rfl
    | int b => rw [show u = .int b from q]; rfl
    | str b =>
      rw [show u = .str (St b) from q]
      show (St x == St b) = (x == b)
      exact St_beq x b
    | _ => exact absurd (show false = true from g) Bool.false_ne_true
  | _ => exact absurd (show false = true from h) Bool.false_ne_true
theorem inV_any {K : PySem.W.Frag} {H : Hp} {x : D} {v : V} (h : flatD x = true) (r : Rep K H x v) : ∀ {ds : List D} {vs : List V}, ds.all flatD = true → RepL K H ds vs → vs.all flatV = true ∧ inV v vs = ds.any fun d => eqD d x
  | [], _, _, q => by rw [show _ = _ from q]; exact ⟨rfl, rfl⟩
  | d :: ds, _, g, ⟨u, us, e, q1, q2⟩ => by
    subst e
    simp only [List.all_cons, Bool.and_eq_true] at g
    obtain ⟨i1, i2⟩ := inV_any h r g.2 q2
    refine ⟨by rw [List.all_cons, flat_V g.1 q1, i1]; rfl, ?_⟩
    show (u :: us).any _ = _
    rw [List.any_cons, List.any_cons, eqV_eqD g.1 h q1 r]
    exact congrArg _ i2
theorem any_eqv {x : D} (hx : okN 40 x = true) : ∀ {ds : List D}, ds.all (okN 40) = true → ((toPs ds).any fun z => PyData.eqv z (toP x)) = ds.any fun d => eqD d x
  | [], _ => rfl
  | d :: ds, g => by
    simp only [List.all_cons, Bool.and_eq_true] at g
    simp only [toPs, List.any_cons]
    rw [eqv_eqD 40 40 d x g.1 hx, any_eqv hx g.2]

def rCmp (o : COp) (dx dy : D) (P : Bool → Prop) : Prop := cmpP o dx dy P
theorem op_is_any : OpR X (compareOp .Is) (fun x y H Q => (y = .non ∧ Q (.bl (decide (x = .non))) H) ∨ (∃ a b, x = .bl a ∧ y = .bl b ∧ Q (.bl (decide (a = b))) H)) := OpR.or op_isN op_is_bl
theorem op_isn_any : OpR X (compareOp .IsNot) (fun x y H Q => (y = .non ∧ Q (.bl (!decide (x = .non))) H) ∨ (∃ a b, x = .bl a ∧ y = .bl b ∧ Q (.bl (!decide (a = b))) H)) := OpR.or op_notN op_isnot_bl
theorem isNon_of {K : PySem.W.Frag} {H : Hp} {d : D} {v : V} (r : Rep K H d v) : decide (v = .non) = isNonD d := by
  cases d with
  | non => rw [show v = .non from r]; rfl
  | bl b => rw [show v = .bl b from r]; rfl
  | int b => rw [show v = .int b from r]; rfl
  | str b => rw [show v = .str (St b) from r]; rfl
  | lst ds => obtain ⟨a, vs, e, _⟩ := r; subst e; rfl
  | tup ds => obtain ⟨a, vs, e, _⟩ := r; subst e; rfl
  | dct ks ds => obtain ⟨a, vs, e, _⟩ := r; subst e; rfl
  | ins c ns ds => obtain ⟨a, dx, vs, e, _⟩ := r; subst e; rfl
theorem cmpP_ok (hu : X.A.units + 65 < cLine) {o : COp} {dx dy : D} {P : Bool → Prop} {x y : V} {F H : Hp} {Q : VK} (h : cmpP o dx dy P) (rx : RepT X.K F H dx x) (ry : RepT X.K F H dy y) (ex : Ex F H) (k : ∀ b, P b → Q (.bl b) H) : Opn X (compareOp (copS o)) x y H Q := by
  have hx := rx.h ex
  have hy := ry.h ex
  have hu' : X.A.units + 64 < cLine := by omega
  have EQ : ∀ {b : Bool}, okN 40 dx = true → okN 40 dy = true → b = eqD dx dy → b = PyData.eqv (toP dx) (toP dy) := fun h1 h2 e => by rw [e, eqv_eqD 40 40 dx dy h1 h2]
  cases o with
  | eq => exact Opn.of (op_eqD hu') ⟨toP dx, toP dy, hx.dp 40 h.1, hy.dp 40 h.2.1, shaped_of (by decide) h.1, shaped_of (by decide) h.2.1, by rw [eqv_eqD 40 40 dx dy h.1 h.2.1]; exact k _ h.2.2⟩
  | ne => exact Opn.of (op_neD hu') ⟨toP dx, toP dy, hx.dp 40 h.1, hy.dp 40 h.2.1, shaped_of (by decide) h.1, shaped_of (by decide) h.2.1, by rw [eqv_eqD 40 40 dx dy h.1 h.2.1]; exact k _ h.2.2⟩
  | lt => cases dx with
    | int a => cases dy with
      | int b => exact Opn.of op_lt ⟨a, b, rx, ry, k _ h⟩
      | _ => exact False.elim h
    | _ => cases dy <;> exact False.elim h
  | le => cases dx with
    | int a => cases dy with
      | int b => exact Opn.of op_le ⟨a, b, rx, ry, k _ h⟩
      | _ => exact False.elim h
    | _ => cases dy <;> exact False.elim h
  | gt => cases dx with
    | int a => cases dy with
      | int b => exact Opn.of op_gt ⟨a, b, rx, ry, k _ h⟩
      | _ => exact False.elim h
    | _ => cases dy <;> exact False.elim h
  | ge => cases dx with
    | int a => cases dy with
      | int b => exact Opn.of op_ge ⟨a, b, rx, ry, k _ h⟩
      | _ => exact False.elim h
    | _ => cases dy <;> exact False.elim h
  | is =>
    cases dy with
    | non =>
      have h' : P (isNonD dx) := by cases dx <;> exact h
      exact Opn.of op_is_any (.inl ⟨hy, by rw [isNon_of hx]; exact k _ h'⟩)
    | bl b => cases dx with
      | bl a => exact Opn.of op_is_any (.inr ⟨a, b, rx, ry, k _ h⟩)
      | _ => exact False.elim h
    | _ => cases dx <;> exact False.elim h
  | isn =>
    cases dy with
    | non =>
      have h' : P (!isNonD dx) := by cases dx <;> exact h
      exact Opn.of op_isn_any (.inl ⟨hy, by rw [isNon_of hx]; exact k _ h'⟩)
    | bl b => cases dx with
      | bl a => exact Opn.of op_isn_any (.inr ⟨a, b, rx, ry, k _ h⟩)
      | _ => exact False.elim h
    | _ => cases dx <;> exact False.elim h
  | in_ =>
    cases dy with
    | str b => cases dx with
      | str a => exact Opn.of op_in_str ⟨_, _, rx, ry, k _ h⟩
      | _ => exact False.elim h
    | tup ds =>
      have h' : flatD dx = true ∧ ds.all flatD = true ∧ P (ds.any fun d => eqD d dx) := by cases dx <;> exact h
      obtain ⟨a, vs, e, q, r⟩ := hy
      obtain ⟨i1, i2⟩ := inV_any h'.1 hx h'.2.1 r
      exact Opn.of op_in_seq ⟨a, vs, e, .inr q, flat_V h'.1 hx, i1, by rw [i2]; exact k _ h'.2.2⟩
    | lst ds =>
      have h' : okN 40 dx = true ∧ ds.all (okN 40) = true ∧ P (ds.any fun d => eqD d dx) := by cases dx <;> exact h
      have ol : okN 41 (.lst ds) = true := by simpa [okN] using h'.2.1
      exact Opn.of (op_inD hu) ⟨toP dx, toPs ds, hx.dp 40 h'.1, hy.dp 41 ol, shaped_of (by decide) h'.1, shaped_of (n := 41) (by decide) ol, by rw [any_eqv h'.1 h'.2.1]; exact k _ h'.2.2⟩
    | _ => cases dx <;> exact False.elim h
  | nin =>
    cases dy with
    | str b => cases dx with
      | str a => exact Opn.of op_notin_str ⟨_, _, rx, ry, k _ h⟩
      | _ => exact False.elim h
    | tup ds =>
      have h' : flatD dx = true ∧ ds.all flatD = true ∧ P (!ds.any fun d => eqD d dx) := by cases dx <;> exact h
      obtain ⟨a, vs, e, q, r⟩ := hy
      obtain ⟨i1, i2⟩ := inV_any h'.1 hx h'.2.1 r
      exact Opn.of op_notIn_seq ⟨a, vs, e, .inr q, flat_V h'.1 hx, i1, by rw [i2]; exact k _ h'.2.2⟩
    | lst ds =>
      have h' : okN 40 dx = true ∧ ds.all (okN 40) = true ∧ P (!ds.any fun d => eqD d dx) := by cases dx <;> exact h
      have ol : okN 41 (.lst ds) = true := by simpa [okN] using h'.2.1
      exact Opn.of (op_notInD hu) ⟨toP dx, toPs ds, hx.dp 40 h'.1, hy.dp 41 ol, shaped_of (by decide) h'.1, shaped_of (n := 41) (by decide) ol, by rw [any_eqv h'.1 h'.2.1]; exact k _ h'.2.2⟩
    | _ => cases dx <;> exact False.elim h

/-! ### items -/
theorem RepL.atI {K : PySem.W.Frag} {H : Hp} {ds : List D} {vs : List V} {i : Int} {d : D} (r : RepL K H ds vs) (h : atI ds i = some d) : ∃ v, L2.atI vs i = some v ∧ Rep K H d v := by
  unfold L2.atI at h ⊢
  rw [r.len]
  cases e : ixN ds.length i with
  | none => rw [e] at h; cases h
  | some j =>
    rw [e] at h
    exact r.get h
def Ixn (X : Cx) (x y : V) (H : Hp) (Q : VK) : Prop :=
  ∀ (value slice : Expr) pins s σ v u, Inv X pins σ H s → RelV x v → RelV y u → subscripted slice false v u = operate [v, u] (getItem v u) → wpAny (model X.prog X.w) X.A (subscriptTail value slice v u) (EP X pins σ Q) X.xe s
theorem Ixn.of {r : R2} (h : IxR X r) {x y : V} {H : Hp} {Q : VK} (q : r x y H Q) : Ixn X x y H Q := fun a b pins s σ v u I r1 r2 hs => h a b pins s σ H x y v u Q I r1 r2 q hs
theorem ixP_ok {dx dy : D} {P : D → Prop} {x y : V} {F H : Hp} {Q : VK} (h : ixP dx dy P) (rx : RepT X.K F H dx x) (ry : RepT X.K F H dy y) (ex : Ex F H) (k : Kn X.K F H P Q) : Ixn X x y H Q := by
  cases dx with
  | str s => cases dy with
    | int i =>
      obtain ⟨h1, c, h2, h3⟩ := h
      exact Ixn.of ix_str ⟨St s, i, c, rx, ry, by rw [St_len, line_eq]; exact h1, by rw [St_cps]; exact h2, k.str ex h3⟩
    | _ => exact False.elim h
  | lst ds => cases dy with
    | int i =>
      obtain ⟨d, h2, h3⟩ := h
      obtain ⟨a, vs, e, q, r⟩ := rx
      obtain ⟨v, e2, r2⟩ := r.atI h2
      exact Ixn.of ix_list ⟨a, vs, i, v, e, ry, q, e2, k.here ex r2 h3⟩
    | _ => exact False.elim h
  | tup ds => cases dy with
    | int i =>
      obtain ⟨d, h2, h3⟩ := h
      obtain ⟨a, vs, e, q, r⟩ := rx
      obtain ⟨v, e2, r2⟩ := r.atI h2
      exact Ixn.of ix_tup ⟨a, vs, i, v, e, ry, ex_t ex q, e2, k.here ex r2 h3⟩
    | _ => exact False.elim h
  | _ => cases dy <;> exact False.elim h

/-! ### slices -/
theorem RepL.cut {K : PySem.W.Frag} {H : Hp} {ds : List D} {vs : List V} (r : RepL K H ds vs) (lo hi : Option Int) : RepL K H (cut ds lo hi) (cutV vs lo hi) := by
  unfold Ts.cut cutV
  rw [r.len]
  exact (r.drop _).take _
theorem cutS_St (s : List Nat) (lo hi : Option Int) : cutS (St s) lo hi = St (cut s lo hi) := by
  unfold cutS cut
  rw [St_len, St_cps]
  rfl
def Sln (X : Cx) (x : V) (lo hi : Option Int) (H : Hp) (Q : VK) : Prop :=
  ∀ pins s σ v vl vu sl, Inv X pins σ H s → RelV x v → s.heap.IsSliceOf sl vl vu .none → IsPart vl lo → IsPart vu hi →
    ∃ T id, typeLookup (.type T) "__getitem__" = pure (some (.builtin id)) ∧ s.TypeIs v T ∧ wpAny (model X.prog X.w) X.A (getItem v (.ref sl)) (EP X pins σ Q) X.xe s
theorem Sln.of {r : V → Option Int → Option Int → Hp → VK → Prop} (h : SlR X r) {x : V} {lo hi : Option Int} {H : Hp} {Q : VK} (q : r x lo hi H Q) : Sln X x lo hi H Q :=
  fun pins s σ v vl vu sl I r1 hs p1 p2 => h pins s σ H x v vl vu lo hi sl Q I r1 hs p1 p2 q
theorem slP_ok {dx : D} {lo hi : Option Int} {P : D → Prop} {x : V} {F H : Hp} {Q : VK} (h : slP dx lo hi P) (rx : RepT X.K F H dx x) (ex : Ex F H) (k : Kn X.K F H P Q) : Sln X x lo hi H Q := by
  cases dx with
  | str s => exact Sln.of sl_str ⟨St s, rx, by rw [St_len, line_eq]; exact h.1, by rw [cutS_St]; exact k.str ex h.2⟩
  | lst ds =>
    obtain ⟨a, vs, e, q, r⟩ := rx
    exact Sln.of sl_list ⟨a, vs, e, q, k.lst ex (r.cut lo hi) h⟩
  | tup ds =>
    obtain ⟨a, vs, e, q, r⟩ := rx
    refine Sln.of sl_tupA ⟨a, vs, e, ex_t ex q, fun z => ?_, fun _ => k.tup ex (r.cut lo hi) h⟩
    have e2 : cut ds lo hi = ds := by
      unfold cut
      rw [r.len] at z
      rw [z.1, z.2]
      simp
    have h' : P (.tup ds) := by have h2 : P (.tup (cut ds lo hi)) := h; rw [e2] at h2; exact h2
    exact k.here (d := .tup ds) ex ⟨a, vs, rfl, q, r⟩ h'
  | _ => exact False.elim h
end
end Ts
set_option Elab.async false
set_option linter.all false
set_option maxRecDepth 100000
set_option maxHeartbeats 4000000
/-! Ts, sixth part: built-ins and methods. -/
namespace Ts
open PySem PySem.Spec PyProof.Rows L2
def RepTs (K : PySem.W.Frag) (F H : Hp) : List D → List V → Prop
  | [], vs => vs = []
  | d :: ds, vs => ∃ v r, vs = v :: r ∧ RepT K F H d v ∧ RepTs K F H ds r
section
variable {X : Cx}
def Clb (X : Cx) (f : Value) (vs : List V) (H : Hp) (Q : VK) : Prop :=
  ∀ pins s σ us, Inv X pins σ H s → Vals vs us → wpAny (model X.prog X.w) X.A (call f us) (EP X pins σ Q) X.xe s
theorem Clb.of {f : Value} {r : List V → Hp → VK → Prop} (h : CallR X f r) {vs : List V} {H : Hp} {Q : VK} (q : r vs H Q) : Clb X f vs H Q :=
  fun pins s σ us I r1 => h pins s σ H vs us Q I r1 q
def tyS : Ty → String
  | .str => "str" | .tuple => "tuple" | .int => "int" | .bool => "bool" | .list => "list"
def biS : BI → String
  | .len => "len" | .abs => "abs" | .int => "int" | .str => "str" | .list => "list" | .tuple => "tuple" | .sum => "sum" | .all => "all" | .any => "any" | .max2 => "max" | .min2 => "min" | .maxl => "max" | .minl => "min" | .isi _ => "isinstance"
def biIsTy : BI → Bool
  | .int => true | .str => true | .list => true | .tuple => true
  | _ => false
def biV (f : BI) : Value := if biIsTy f then .type (biS f) else .builtin (biS f)
/-- the type as the second argument -/
def biMore : BI → List V
  | .isi t => [.ty (tyS t)]
  | _ => []
theorem ints_of {K : PySem.W.Frag} {H : Hp} : ∀ {ds : List D} {vs : List V} {ns : List Int}, RepL K H ds vs → intsD ds = some ns → vs = ns.map V.int
  | [], _, _, h, e => by cases e; exact h
  | .int i :: ds, _, ns, ⟨v, r, e1, h1, h2⟩, e => by
    subst e1
    unfold intsD at e
    cases q : intsD ds with
    | none => rw [q] at e; cases e
    | some ms =>
      rw [q] at e
      cases e
      rw [show v = .int i from h1, ints_of h2 q]
      rfl
  | .non :: _, _, _, _, e => by cases e
  | .bl _ :: _, _, _, _, e => by cases e
  | .str _ :: _, _, _, _, e => by cases e
  | .tup _ :: _, _, _, _, e => by cases e
  | .lst _ :: _, _, _, _, e => by cases e
  | .dct _ _ :: _, _, _, _, e => by cases e
  | .ins _ _ _ :: _, _, _, _, e => by cases e
theorem bools_of {K : PySem.W.Frag} {H : Hp} : ∀ {ds : List D} {vs : List V} {ns : List Bool}, RepL K H ds vs → boolsD ds = some ns → vs = ns.map V.bl
  | [], _, _, h, e => by cases e; exact h
  | .bl i :: ds, _, ns, ⟨v, r, e1, h1, h2⟩, e => by
    subst e1
    unfold boolsD at e
    cases q : boolsD ds with
    | none => rw [q] at e; cases e
    | some ms =>
      rw [q] at e
      cases e
      rw [show v = .bl i from h1, bools_of h2 q]
      rfl
  | .non :: _, _, _, _, e => by cases e
  | .int _ :: _, _, _, _, e => by cases e
  | .str _ :: _, _, _, _, e => by cases e
  | .tup _ :: _, _, _, _, e => by cases e
  | .lst _ :: _, _, _, _, e => by cases e
  | .dct _ _ :: _, _, _, _, e => by cases e
  | .ins _ _ _ :: _, _, _, _, e => by cases e
theorem strs_of {K : PySem.W.Frag} {H : Hp} : ∀ {ds : List D} {vs : List V} {ns : List (List Nat)}, RepL K H ds vs → strs? ds = some ns → vs = (ns.map St).map V.str
  | [], _, _, h, e => by cases e; exact h
  | .str i :: ds, _, ns, ⟨v, r, e1, h1, h2⟩, e => by
    subst e1
    unfold strs? at e
    cases q : strs? ds with
    | none => rw [q] at e; cases e
    | some ms =>
      rw [q] at e
      cases e
      rw [show v = .str (St i) from h1, strs_of h2 q]
      rfl
  | .non :: _, _, _, _, e => by cases e
  | .int _ :: _, _, _, _, e => by cases e
  | .bl _ :: _, _, _, _, e => by cases e
  | .tup _ :: _, _, _, _, e => by cases e
  | .lst _ :: _, _, _, _, e => by cases e
  | .dct _ _ :: _, _, _, _, e => by cases e
  | .ins _ _ _ :: _, _, _, _, e => by cases e
/-- the class of what stands for a datum -/
def tyD : D → String
  | .non => "NoneType" | .bl _ => "bool" | .int _ => "int" | .str _ => "str" | .lst _ => "list" | .tup _ => "tuple" | .dct _ _ => "dict" | .ins _ _ _ => ""
theorem tyX_of {K : PySem.W.Frag} {H : Hp} {d : D} {v : V} (h : noIns d = true) (r : Rep K H d v) : TyX K H v (.type (tyD d)) := by
  cases d with
  | non => rw [show v = .non from r]; exact .base .non
  | bl b => rw [show v = .bl b from r]; exact .base (.bl b)
  | int b => rw [show v = .int b from r]; exact .base (.int b)
  | str b => rw [show v = .str (St b) from r]; exact .base (.str _)
  | lst ds =>
    obtain ⟨a, vs, e, (q | ⟨o, q⟩) | ⟨o, its, n, hk, hc, _⟩, _⟩ := r
    · subst e; exact .base (.lst q)
    · subst e; exact .base (.frz q)
    · subst e; exact .kList hk hc
  | tup ds =>
    obtain ⟨a, vs, e, (q | ⟨o, q⟩) | ⟨o, its, n, hk, hc, _⟩, _⟩ := r
    · subst e; exact .base (.tup q)
    · subst e; exact .fTuple q
    · subst e; exact .kTuple hk hc
  | dct ks ds =>
    obtain ⟨a, vs, e, q | ⟨o, q⟩, _⟩ := r
    · subst e; exact .base (.dK q)
    · subst e; exact .fDict q
  | ins c ns ds => exact absurd (show false = true from h) Bool.false_ne_true
theorem kit_D (K : PySem.W.Frag) (t : Ty) (d : D) (h : noIns d = true) : PySem.W.kitOne K (.type (tyD d)) (.type (tyS t)) = some (isiD t d) := by
  have go : ∀ (a b : String) (r : Bool), kitB a b = some r → PySem.W.kitOne K (.type a) (.type b) = some r := fun a b r h => kit_ty h
  cases d with
  | ins c ns ds => exact absurd (show false = true from h) Bool.false_ne_true
  | non => cases t <;> first | exact go "NoneType" _ true (by decide +kernel) | exact go "NoneType" _ false (by decide +kernel)
  | bl b => cases t <;> first | exact go "bool" _ true (by decide +kernel) | exact go "bool" _ false (by decide +kernel)
  | int b => cases t <;> first | exact go "int" _ true (by decide +kernel) | exact go "int" _ false (by decide +kernel)
  | str b => cases t <;> first | exact go "str" _ true (by decide +kernel) | exact go "str" _ false (by decide +kernel)
  | lst ds => cases t <;> first | exact go "list" _ true (by decide +kernel) | exact go "list" _ false (by decide +kernel)
  | tup ds => cases t <;> first | exact go "tuple" _ true (by decide +kernel) | exact go "tuple" _ false (by decide +kernel)
  | dct ks ds => cases t <;> first | exact go "dict" _ true (by decide +kernel) | exact go "dict" _ false (by decide +kernel)
theorem getD_memN {ns : List Int} {i : Nat} (h : i < ns.length) : ns.getD i 0 ∈ ns := by
  rw [List.getD_eq_getElem?_getD, List.getElem?_eq_getElem h]; exact List.getElem_mem h
theorem intsAre_of : ∀ {ns : List Int} {us : List Value}, Vals (ns.map V.int) us → IntsAre us ns
  | [], [], _ => .nil
  | n :: ns, _ :: _, .cons r t => by
    obtain ⟨t0, rfl⟩ := r
    exact .cons n t0 (intsAre_of t)
theorem call_minI {X : Cx} (hc : X.calm = true) : CallR X (.builtin "min") (fun xs H Q => ∃ (p : Addr) (ns : List Int), xs = [.ref p] ∧ SqL X.K H p (ns.map V.int) ∧ ns ≠ [] ∧ ∀ m, m ∈ ns → (∀ a ∈ ns, m ≤ a) → Q (.int m) H) := by
  intro pins s σ H vs us Q I r h
  obtain ⟨p, ns, rfl, hs, hne, q⟩ := h
  obtain ⟨its, rv, hl, _⟩ := I.list hs
  rw [Vals.ref1 r]
  have hi := intsAre_of rv
  obtain ⟨xs, e⟩ := hi.allInts.items
  have hns : ns = xs.toList.map (·.1) := by rw [← hi.numsOf, ← nums_intItems, ← e]
  have hsz : 0 < xs.size := by
    have h3 : 0 < ns.length := List.length_pos_iff.mpr hne
    rw [hns, List.length_map, Array.length_toList] at h3; exact h3
  have hl' := hl.isList
  rw [e] at hl'
  refine min_intList (I.ok.hd hc) hl' hsz fun v h' tk hv hk => ?_
  obtain ⟨t, rfl⟩ := intItems_at hv
  obtain ⟨h1, h2⟩ := argBest_lt (numAt xs) (xs.size - 1)
  refine ⟨.int _, H, I.kept (t' := tk) hk, ⟨t, rfl⟩, q _ ?_ fun a ha => ?_⟩
  · rw [hns, numAt_eq]; exact getD_memN (by rw [List.length_map, Array.length_toList]; omega)
  · rw [hns] at ha
    obtain ⟨j, hj, rfl⟩ := mem_getD ha
    rw [List.length_map, Array.length_toList] at hj
    rw [← numAt_eq]; exact h2 j (by omega)
theorem call_maxI {X : Cx} (hc : X.calm = true) : CallR X (.builtin "max") (fun xs H Q => ∃ (p : Addr) (ns : List Int), xs = [.ref p] ∧ SqL X.K H p (ns.map V.int) ∧ ns ≠ [] ∧ ∀ m, m ∈ ns → (∀ a ∈ ns, a ≤ m) → Q (.int m) H) := by
  intro pins s σ H vs us Q I r h
  obtain ⟨p, ns, rfl, hs, hne, q⟩ := h
  obtain ⟨its, rv, hl, _⟩ := I.list hs
  rw [Vals.ref1 r]
  have hi := intsAre_of rv
  obtain ⟨xs, e⟩ := hi.allInts.items
  have hns : ns = xs.toList.map (·.1) := by rw [← hi.numsOf, ← nums_intItems, ← e]
  have hsz : 0 < xs.size := by
    have h3 : 0 < ns.length := List.length_pos_iff.mpr hne
    rw [hns, List.length_map, Array.length_toList] at h3; exact h3
  have hl' := hl.isList
  rw [e] at hl'
  refine max_intList (I.ok.hd hc) hl' hsz fun v h' tk hv hk => ?_
  obtain ⟨t, rfl⟩ := intItems_at hv
  obtain ⟨h1, h2⟩ := argBest_gt (numAt xs) (xs.size - 1)
  refine ⟨.int _, H, I.kept (t' := tk) hk, ⟨t, rfl⟩, q _ ?_ fun a ha => ?_⟩
  · rw [hns, numAt_eq]; exact getD_memN (by rw [List.length_map, Array.length_toList]; omega)
  · rw [hns] at ha
    obtain ⟨j, hj, rfl⟩ := mem_getD ha
    rw [List.length_map, Array.length_toList] at hj
    rw [← numAt_eq]; exact h2 j (by omega)
theorem biP_ok (hc : X.calm = true) {f : BI} {ds : List D} {P : D → Prop} {vs : List V} {F H : Hp} {Q : VK} (h : biP f ds P) (r : RepTs X.K F H ds vs) (ex : Ex F H) (k : Kn X.K F H P Q) : Clb X (biV f) (vs ++ biMore f) H Q := by
  have one : ∀ {d : D}, ds = [d] → ∃ v, vs = [v] ∧ RepT X.K F H d v := fun {d} e => by
    subst e
    obtain ⟨v, r', e1, h1, h2⟩ := r
    rw [show r' = [] from h2] at e1
    exact ⟨v, e1, h1⟩
  have two : ∀ {d d' : D}, ds = [d, d'] → ∃ v v', vs = [v, v'] ∧ RepT X.K F H d v ∧ RepT X.K F H d' v' := fun {d d'} e => by
    subst e
    obtain ⟨v, r', e1, h1, v', r'', e2, h2, h3⟩ := r
    rw [show r'' = [] from h3] at e2
    rw [e2] at e1
    exact ⟨v, v', e1, h1, h2⟩
  match f, ds, h with
  | .len, [.str s], h =>
    obtain ⟨v, e, q⟩ := one rfl
    rw [e, show v = .str (St s) from q]
    exact Clb.of call_len ⟨_, _, rfl, ⟨by rw [St_len, line_eq]; exact h.1, rfl⟩, by rw [St_len]; exact k.int ex h.2⟩
  | .len, [.lst es], h =>
    obtain ⟨v, e, a, us, e1, q, q2⟩ := one rfl
    rw [e, e1]
    exact Clb.of call_len ⟨_, us.length, rfl, .inl ⟨us, q, rfl⟩, by rw [q2.len]; exact k.int ex h⟩
  | .len, [.tup es], h =>
    obtain ⟨v, e, a, us, e1, q, q2⟩ := one rfl
    rw [e, e1]
    exact Clb.of call_len ⟨_, us.length, rfl, .inr ⟨us, ex_t ex q, rfl⟩, by rw [q2.len]; exact k.int ex h⟩
  | .abs, [.int i], h =>
    obtain ⟨v, e, q⟩ := one rfl
    rw [e, show v = .int i from q]
    exact Clb.of call_abs ⟨_, rfl, k.int ex h⟩
  | .int, [.int i], h =>
    obtain ⟨v, e, q⟩ := one rfl
    rw [e, show v = .int i from q]
    exact Clb.of call_int1 (.inl ⟨_, rfl, k.int ex h⟩)
  | .int, [.bl i], h =>
    obtain ⟨v, e, q⟩ := one rfl
    rw [e, show v = .bl i from q]
    exact Clb.of call_int1 (.inr ⟨_, rfl, k.int ex h⟩)
  | .str, [.int i], h =>
    obtain ⟨v, e, q⟩ := one rfl
    rw [e, show v = .int i from q]
    refine Clb.of call_str_int ⟨_, rfl, ?_, ?_⟩
    · by_cases z : i.natAbs = 0
      · rw [z]; decide
      · exact Nat.lt_trans ((Nat.log2_lt z).mpr h.1) (by decide)
    · have e2 : (Str.ofString (toString i)) = St (toStr i) := St_of _
      show Q (.str (Str.ofString (toString i))) H
      rw [e2]
      exact k.str ex h.2
  | .list, [.lst es], h =>
    obtain ⟨v, e, a, us, e1, q, q2⟩ := one rfl
    rw [e, e1]
    exact Clb.of call_list_of ⟨a, us, rfl, .inl q, k.lst ex q2 h⟩
  | .list, [.tup es], h =>
    obtain ⟨v, e, a, us, e1, q, q2⟩ := one rfl
    rw [e, e1]
    exact Clb.of call_list_of ⟨a, us, rfl, .inr (ex_t ex q), k.lst ex q2 h⟩
  | .tuple, [.lst es], h =>
    obtain ⟨v, e, a, us, e1, q, q2⟩ := one rfl
    rw [e, e1]
    exact Clb.of call_tuple_of ⟨a, us, rfl, .inl ⟨q, k.tup ex q2 h⟩⟩
  | .tuple, [.tup es], h =>
    obtain ⟨v, e, a, us, e1, q, q2⟩ := one rfl
    rw [e, e1]
    exact Clb.of call_tuple_of ⟨a, us, rfl, .inr ⟨ex_t ex q, k.here (d := .tup es) ex ⟨a, us, rfl, q, q2⟩ h⟩⟩
  | .sum, [.lst es], h =>
    obtain ⟨v, e, a, us, e1, q, q2⟩ := one rfl
    obtain ⟨ns, hn, h⟩ := h
    rw [e, e1]
    exact Clb.of (cr_sum hc) ⟨a, ns, rfl, by rw [← ints_of q2 hn]; exact q, k.int ex h⟩
  | .all, [.lst es], h =>
    obtain ⟨v, e, a, us, e1, q, q2⟩ := one rfl
    obtain ⟨ns, hn, h⟩ := h
    rw [e, e1]
    exact Clb.of (cr_all hc) ⟨a, ns, rfl, by rw [← bools_of q2 hn]; exact q, k.bl ex h⟩
  | .any, [.lst es], h =>
    obtain ⟨v, e, a, us, e1, q, q2⟩ := one rfl
    obtain ⟨ns, hn, h⟩ := h
    rw [e, e1]
    exact Clb.of (cr_any hc) ⟨a, ns, rfl, by rw [← bools_of q2 hn]; exact q, k.bl ex h⟩
  | .max2, [.int i, .int j], h =>
    obtain ⟨v, v', e, q, q'⟩ := two rfl
    rw [e, show v = .int i from q, show v' = .int j from q']
    exact Clb.of (call_max2 hc) ⟨_, _, rfl, k.int ex h⟩
  | .min2, [.int i, .int j], h =>
    obtain ⟨v, v', e, q, q'⟩ := two rfl
    rw [e, show v = .int i from q, show v' = .int j from q']
    exact Clb.of (call_min2 hc) ⟨_, _, rfl, k.int ex h⟩
  | .maxl, [.lst es], h =>
    obtain ⟨v, e, a, us, e1, q, q2⟩ := one rfl
    obtain ⟨ns, hn, hne, h⟩ := h
    rw [e, e1]
    exact Clb.of (call_maxI hc) ⟨a, ns, rfl, by rw [← ints_of q2 hn]; exact q, hne, fun m h1 h2 => k.int ex (h m h1 h2)⟩
  | .minl, [.lst es], h =>
    obtain ⟨v, e, a, us, e1, q, q2⟩ := one rfl
    obtain ⟨ns, hn, hne, h⟩ := h
    rw [e, e1]
    exact Clb.of (call_minI hc) ⟨a, ns, rfl, by rw [← ints_of q2 hn]; exact q, hne, fun m h1 h2 => k.int ex (h m h1 h2)⟩
  | .isi t, [d], h =>
    obtain ⟨v, e, q⟩ := one rfl
    rw [e]
    exact Clb.of call_isi ⟨v, .ty (tyS t), _, .type (tyS t), _, rfl, .ty _, tyX_of h.1 (q.h ex), kit_D _ t d h.1, k.bl ex h.2⟩

/-! ### methods of texts -/
def Mtn (X : Cx) (id : String) (x : V) (vs : List V) (H : Hp) (Q : VK) : Prop :=
  ∀ pins s σ v us, Inv X pins σ H s → RelV x v → Vals vs us → wpAny (model X.prog X.w) X.A (call (.builtin id) (v :: us)) (EP X pins σ Q) X.xe s
theorem Mtn.of {id : String} {r : V → List V → Hp → VK → Prop} (h : MtR X id r) {x : V} {vs : List V} {H : Hp} {Q : VK} (q : r x vs H Q) : Mtn X id x vs H Q :=
  fun pins s σ v us I r1 r2 => h pins s σ H x vs v us Q I r1 r2 q
def mtS : MT → String
  | .upper => "upper" | .lower => "lower" | .islower => "islower" | .isupper => "isupper" | .isdigit => "isdigit" | .isalnum => "isalnum" | .split => "split" | .join => "join" | .replace => "replace"
theorem rep_strs {K : PySem.W.Frag} {H : Hp} : ∀ (ys : List Str), RepL K H (ys.map fun x => .str x.cps.toList) (ys.map V.str)
  | [] => rfl
  | y :: ys => ⟨.str y, ys.map V.str, rfl, by show V.str y = .str (St y.cps.toList); rw [← St_of], rep_strs ys⟩
theorem mtP_ok {m : MT} {dx : D} {ds : List D} {P : D → Prop} {x : V} {vs : List V} {F H : Hp} {Q : VK} (h : mtP m dx ds P) (rx : Rep X.K F dx x) (r : RepTs X.K F H ds vs) (ex : Ex F H) (k : Kn X.K F H P Q) : Mtn X ("str." ++ mtS m) x vs H Q := by
  have one : ∀ {d : D}, ds = [d] → ∃ v, vs = [v] ∧ RepT X.K F H d v := fun {d} e => by
    subst e
    obtain ⟨v, r', e1, h1, h2⟩ := r
    rw [show r' = [] from h2] at e1
    exact ⟨v, e1, h1⟩
  have nil : ds = [] → vs = [] := fun e => by subst e; exact r
  match m, dx, ds, h with
  | .upper, .str s, [], h =>
    rw [nil rfl, show x = .str (St s) from rx]
    refine Mtn.of mt_upper ⟨_, rfl, rfl, by rw [St_len]; exact h.1, ?_⟩
    have e : Txt.upper (St s) = St (s.map PyProof.Rows.up1) := by
      rw [PyProof.Rows.upper_ascii (x := St s) (fun c hc => of_decide_eq_true (List.all_eq_true.mp h.2.1 c (by rw [St_cps] at hc; exact hc)))]
      simp [St]
    rw [e]
    exact k.str ex h.2.2
  | .lower, .str s, [], h =>
    rw [nil rfl, show x = .str (St s) from rx]
    exact Mtn.of mt_lower ⟨_, rfl, rfl, by rw [St_len]; exact h.1, by rw [St_of (Txt.lower (St s))]; exact k.str ex h.2⟩
  | .islower, .str s, [], h =>
    rw [nil rfl, show x = .str (St s) from rx]
    exact Mtn.of mt_islower ⟨_, rfl, rfl, trivial, k.bl ex h⟩
  | .isupper, .str s, [], h =>
    rw [nil rfl, show x = .str (St s) from rx]
    exact Mtn.of mt_isupper ⟨_, rfl, rfl, trivial, k.bl ex h⟩
  | .isdigit, .str s, [], h =>
    rw [nil rfl, show x = .str (St s) from rx]
    exact Mtn.of mt_isdigit ⟨_, rfl, rfl, trivial, k.bl ex h⟩
  | .isalnum, .str s, [], h =>
    rw [nil rfl, show x = .str (St s) from rx]
    exact Mtn.of mt_isalnum ⟨_, rfl, rfl, trivial, k.bl ex h⟩
  | .split, .str s, [.str b], h =>
    obtain ⟨v, e, q⟩ := one rfl
    rw [e, show v = .str (St b) from q, show x = .str (St s) from rx]
    refine Mtn.of mt_split ⟨_, _, rfl, rfl, ?_, by rw [St_len, line_eq]; exact h.2.1, ?_⟩
    · rw [St_len]
      cases b with
      | nil => exact absurd rfl h.1
      | cons _ _ => rfl
    · intro p hp
      exact k.lst ex (rep_strs _) h.2.2 p hp
  | .join, .str s, [.lst es], h =>
    obtain ⟨v, e, a, us, e1, q, q2⟩ := one rfl
    obtain ⟨ys, hy, hz, h⟩ := h
    rw [e, e1, show x = .str (St s) from rx]
    refine Mtn.of mt_join ⟨_, a, ys.map St, rfl, rfl, .inl (by rw [← strs_of q2 hy]; exact q), ?_, ?_⟩
    · have e2 : ((ys.map St).map fun z => z.length) = ys.map List.length := by
        rw [List.map_map]
        exact List.map_congr_left fun z _ => St_len z
      rw [e2, List.length_map, St_len]
      exact hz
    · rw [St_of (Txt.join (St s) (ys.map St))]
      exact k.str ex h
end
end Ts
set_option Elab.async false
set_option linter.all false
set_option maxRecDepth 100000
set_option maxHeartbeats 4000000
/-! Ts, seventh part: expressions. -/
namespace Ts
open PySem PySem.Spec PyProof.Rows L2

/-! ### the weakest readings -/
section
variable {X : Cx} {e : Expr} {es : List Expr} {st : Stmt} {sts : List Stmt} {σ : L2.St} {H : Hp}
def teW (X : Cx) (e : Expr) : TE := fun σ H Q => ∀ pins s, Inv X pins σ H s → wpAny (model X.prog X.w) X.A (eval e X.env) (EP X pins σ Q) X.xe s
theorem pe_w : PE X e (teW X e) := ⟨fun pins s σ H Q I h => h pins s I⟩
theorem teW_of {t : TE} (h : PE X e t) {Q : VK} (q : t σ H Q) : teW X e σ H Q := fun pins s I => h.run pins s σ H Q I q
def ttW (X : Cx) (e : Expr) : TT := fun σ H Q => ∀ pins s, Inv X pins σ H s → wpAny (model X.prog X.w) X.A (isTrue e X.env (eval e X.env)) (TP X pins σ Q) X.xe s
theorem pt_w : PT X e (ttW X e) := ⟨fun pins s σ H Q I h => h pins s I⟩
theorem ttW_of {t : TT} (h : PT X e t) {Q : Bool → Hp → Prop} (q : t σ H Q) : ttW X e σ H Q := fun pins s I => h.run pins s σ H Q I q
def twW (X : Cx) (e : Expr) : TT := fun σ H Q => ∀ whole pins s, Inv X pins σ H s → wpAny (model X.prog X.w) X.A (isTrue e X.env whole) (TP X pins σ Q) X.xe s
theorem pw_w : PW X e (twW X e) := ⟨fun w pins s σ H Q I h => h w pins s I⟩
theorem twW_of {t : TT} (h : PW X e t) {Q : Bool → Hp → Prop} (q : t σ H Q) : twW X e σ H Q := fun w pins s I => h.run w pins s σ H Q I q
def taW (X : Cx) (es : List Expr) : TA := fun σ H Q => ∀ pos pins s, Inv X pins σ H s → wpAny (model X.prog X.w) X.A (spliced (backTo pos (starEach es X.env))) (AP X pins σ Q) X.xe s
theorem pa_w : PA X es (taW X es) := ⟨fun pos pins s σ H Q I h => h pos pins s I⟩
theorem taW_of {t : TA} (h : PA X es t) {Q : List V → Hp → Prop} (q : t σ H Q) : taW X es σ H Q := fun pos pins s I => h.run pos pins s σ H Q I q
def toW (X : Cx) (e : Option Expr) : TO := fun σ H Q => ∀ pins s, Inv X pins σ H s → wpAny (model X.prog X.w) X.A (evalPart e X.env) (fun u s' => ∃ o H', Inv X pins σ H' s' ∧ IsPart u o ∧ Q o H') X.xe s
theorem po_w {e : Option Expr} : PO X e (toW X e) := ⟨fun pins s σ H Q I h => h pins s I⟩
theorem toW_of {e : Option Expr} {t : TO} (h : PO X e t) {Q : Option Int → Hp → Prop} (q : t σ H Q) : toW X e σ H Q := fun pins s I => h.run pins s σ H Q I q
def tsW (X : Cx) (st : Stmt) : TS := fun D σ H => ∀ pins s, Inv X pins σ H s → wpAny (model X.prog X.w) X.A (exec st X.env) (SP X pins D) X.xe s
theorem ps_w : PS X st (tsW X st) := ⟨fun pins s σ H D I h => h pins s I⟩
theorem tsW_of {t : TS} (h : PS X st t) {D : Ends} (q : t D σ H) : tsW X st D σ H := fun pins s I => h.run pins s σ H D I q
def tssW (X : Cx) (sts : List Stmt) : TS := fun D σ H => ∀ pins s, Inv X pins σ H s → wpAny (model X.prog X.w) X.A (execs sts X.env) (SP X pins D) X.xe s
theorem pss_w : PSs X sts (tssW X sts) := ⟨fun pins s σ H D I h => h pins s I⟩
theorem tssW_of {t : TS} (h : PSs X sts t) {D : Ends} (q : t D σ H) : tssW X sts D σ H := fun pins s I => h.run pins s σ H D I q
end

/-! ### what a def promises, what a body may use -/
def spP (xad : Nat → Addr) (K : PySem.W.Frag) (sp : PSpec) : Sp := fun vs H Q E => vs.length = sp.ar ∧ ∃ F ds g, Ex F H ∧ RepL K F ds vs ∧ sp.pre g ds ∧
  (∀ d v F' H', Ext F H F' H' → Rep K F' d v → sp.ret g d → Q v H') ∧ ∀ c F' H', Ext F H F' H' → sp.exc g c → E (.ref (xad c)) none H'
structure Tb where
  N : List Str
  fn : List Str := []
  cn : List Str := []
  bl : List Str := []
  ex : List (Nat × Str) := []
  hot : Bool := false
/-- what is known of the classes of errors -/
structure Xc (xad : Nat → Addr) (K : PySem.W.Frag) (mg : Str → Option Value) (L : List (Nat × Str)) : Prop where
  mg : ∀ n x, (n, x) ∈ L → mg x = some (.ref (xad n)) ∧ PySem.W.keepIn K (.ref (xad n)) = true ∧ PySem.W.subIn K (.ref (xad n)) (.type "BaseException") = some true ∧ PySem.W.typeIn K (.ref (xad n)) = some (.type "type") ∧
    PySem.W.excIn K (xad n) [.type "ValueError", .type "Exception", .type "BaseException", .type "object"] "ValueError.__new__" = true
  sub : ∀ n x m y, (n, x) ∈ L → (m, y) ∈ L → PySem.W.subIn K (.ref (xad n)) (.ref (xad m)) = some (subX n m)
  val : ∀ n x, (n, x) ∈ L → PySem.W.kitOne K (.ref (xad n)) (.type "ValueError") = some true
  ec : ∀ n x, (n, x) ∈ L → ExcC K (xad n)
  ne : ∀ n x m y, (n, x) ∈ L → (m, y) ∈ L → xad n = xad m → n = m
theorem Xc.nil {xad : Nat → Addr} {K : PySem.W.Frag} {mg : Str → Option Value} : Xc xad K mg [] := ⟨fun _ _ h => (nomatch h), fun _ _ _ _ h => (nomatch h), fun _ _ h => (nomatch h), fun _ _ h => (nomatch h), fun _ _ _ _ h => (nomatch h)⟩
structure Cal1 (xad : Nat → Addr) (X : Cx) (x : Str) (sp : PSpec) : Prop where
  ex : ∃ (k : Nat) (f : Addr) (fd : FuncData) (ps : List Str), FnOk X.prog X.w X.K X.mg X.base (L2.CX X.prog X.w) k f fd ps (spP xad X.K sp) ∧ Room k X.A ∧ X.mg x = some (.ref f) ∧ PySem.W.keepIn X.K (.ref f) = true ∧ Binds X.K fd ps []
structure Gd (T : Tb) (sm : Sm) (xad : Nat → Addr) (X : Cx) : Prop where
  N : X.N = T.N
  nd : T.N.Nodup
  calm : T.hot = false → X.calm = true
  units : X.A.units + 65 < cLine
  fn : T.hot = false → ∀ (n : Nat) x, T.fn[n]? = some x → ∃ sp, sm.fn[n]? = some sp ∧ Cal1 xad X x sp
  cn : ∀ (n : Nat) x d, T.cn[n]? = some x → sm.cn[n]? = some d → ∃ v u, X.mg x = some u ∧ RelV v u ∧ ∀ F, Rep X.K F d v
  bl : ∀ x, x ∈ T.bl → X.mg x = none
  xc : Xc xad X.K X.mg T.ex
  xr : ∀ c ∈ sm.xr, ∃ x, (c, x) ∈ T.ex
  ise : T.hot = true → ∀ a n, sm.exc = some (a, n) → ∃ (Y : Cx) (oe : Obj) (pn : List (Addr × Obj)), X = Y.suite a ((a, oe) :: pn) ∧ Zc (.ref (xad n)) none oe ∧ (∃ vs, oe.data = .fields vs) ∧ ∃ x, (n, x) ∈ T.ex

section
variable {K : PySem.W.Frag} {F H F1 H1 : Hp} {σ : L2.St} {ρ ρ1 : Env} {fp fp1 : Fp} {xad : Nat → Addr}
def NCt (K : PySem.W.Frag) (F H : Hp) (σ : L2.St) (fp : Fp) (Φ : EK) (Q : VK) : Prop :=
  ∀ d ρ' v F' H' fp', Stp F H fp F' H' fp' → Ok K F' H' σ ρ' fp' → Rep K F' d v → Φ d ρ' → Q v H'
def XCt (xad : Nat → Addr) (K : PySem.W.Frag) (F H : Hp) (σ : L2.St) (fp : Fp) (Ψ : XKn) (W : WX) : Prop :=
  ∀ c ρ' F' H' fp', Stp F H fp F' H' fp' → Ok K F' H' σ ρ' fp' → Ψ c ρ' → W (.ref (xad c)) none σ H'
theorem XCt.step {Ψ : XKn} {W : WX} (x : XCt xad K F H σ fp Ψ W) (s : Stp F H fp F1 H1 fp1) : XCt xad K F1 H1 σ fp1 Ψ W :=
  fun c ρ' F' H' fp' s' => x c ρ' F' H' fp' (s.trans s')
theorem NCt.step {Φ : EK} {Q : VK} (x : NCt K F H σ fp Φ Q) (s : Stp F H fp F1 H1 fp1) : NCt K F1 H1 σ fp1 Φ Q :=
  fun d ρ' v F' H' fp' s' => x d ρ' v F' H' fp' (s.trans s')
/-- .. from an operation that only adds -/
theorem NCt.kn {P : D → Prop} {Φ : EK} {Q : VK} (x : NCt K F H σ fp Φ Q) (k : Ok K F H σ ρ fp) (h : ∀ d, P d → Φ d ρ) : Kn K F H P Q :=
  fun d v F' H' e r p => x d ρ v F' H' fp e.stp (k.ext e) r (h d p)
theorem NCt.here {Φ : EK} {Q : VK} (x : NCt K F H σ fp Φ Q) (k : Ok K F H σ ρ fp) {d : D} {v : V} (r : Rep K F d v) (h : Φ d ρ) : Q v H := x d ρ v F H fp (Stp.refl F H fp) k r h

/-- what an operand is -/
def OdOk (K : PySem.W.Frag) (F : Hp) (σ : L2.St) : Od → V → Prop
  | .val d, v => Rep K F d v
  | .own i, v => σ[i]? = some (some v)
theorem OdOk.mono (e : Ex F F1) {o : Od} {v : V} (h : OdOk K F σ o v) : OdOk K F1 σ o v := by
  cases o with
  | val d => exact Rep.mono e (show Rep K F d v from h)
  | own i => exact h
theorem SlOk.rept (ex : Ex F H) {s : Sl} {v : V} {f : List Addr} (h : SlOk K F H s (some v) f) {P : D → Prop} (p : svP (some s) P) : ∃ d, P d ∧ RepT K F H d v := by
  cases s with
  | no => exact False.elim p
  | exc a => exact False.elim p
  | val d =>
    obtain ⟨_, u, e, r⟩ := h
    cases e
    exact ⟨d, p, r.t ex⟩
  | lst ds =>
    obtain ⟨a, vs, e, _, h1, h2⟩ := h
    cases e
    exact ⟨.lst ds, p, a, vs, rfl, .of h1, h2⟩
  | dct ks ds =>
    obtain ⟨a, vs, e, _, h1, h2, h3⟩ := h
    cases e
    exact ⟨.dct ks ds, p, a, vs, rfl, .inl h1, h2, h3⟩
  | ins c ns ds =>
    obtain ⟨a, dx, vs, e, _, h1, h2, h3⟩ := h
    cases e
    exact ⟨.ins c ns ds, p, a, dx, vs, rfl, h1, h2, h3⟩
theorem OdOk.get (k : Ok K F H σ ρ fp) {o : Od} {v : V} (h : OdOk K F σ o v) {P : D → Prop} (p : odP ρ o P) : ∃ d, P d ∧ RepT K F H d v := by
  cases o with
  | val d => exact ⟨d, p, Rep.t k.ex h⟩
  | own i =>
    have p : svP ρ[i]? P := p
    cases e : ρ[i]? with
    | none => rw [e] at p; exact False.elim p
    | some s =>
      rw [e] at p
      obtain ⟨ov, e1, e2⟩ := k.sl i s e
      have e3 : σ[i]? = some (some v) := h
      rw [e3] at e1
      cases e1
      exact e2.rept k.ex p
/-- a name's own list is known from now on -/
theorem Ok.freeze {i : Nat} {ds : List D} (k : Ok K F H σ ρ fp) (e : ρ[i]? = some (.lst ds)) : ∃ v F', σ[i]? = some (some v) ∧ Ok K F' H σ (ρ.set i (.val (.lst ds))) (setFp fp i []) ∧ Stp F H fp F' H (setFp fp i []) ∧ Rep K F' (.lst ds) v := by
  obtain ⟨ov, e1, a, vs, e2, hf, hH, r⟩ := k.sl i _ e
  subst e2
  have hi : i < ρ.length := (List.getElem?_eq_some_iff.mp e).1
  have hF := (k.own i a (by rw [hf]; simp)).1
  have eF : Ex F (upd F a (.lst vs)) := Ex.upd hF
  have other : ∀ j b, b ∈ fp j → j ≠ i → b ≠ a := fun j b hb hj z => hj (k.dis j i b hb (by rw [hf, z]; simp))
  have rp : Rep K (upd F a (.lst vs)) (.lst ds) (.ref a) := ⟨a, vs, rfl, .of upd_same, r.mono eF⟩
  refine ⟨.ref a, upd F a (.lst vs), e1, ⟨fun b u h => ?_, by simp [k.len], fun j s ej => ?_, fun j hj => ?_, fun j b h => ?_, fun j l b h1 h2 => ?_⟩, ⟨eF, fun b u h _ => h, fun b h f n => ?_, fun j b h => ?_, fun _ h => h⟩, rp⟩
  · by_cases z : b = a
    · subst z; rw [upd_same] at h; rw [← h]; exact hH
    · rw [upd_ne z] at h; exact k.ex b u h
  · by_cases z : j = i
    · subst z
      rw [List.getElem?_set_self hi] at ej
      cases ej
      exact ⟨_, e1, setFp_same, _, rfl, rp⟩
    · rw [List.getElem?_set_ne (Ne.symm z)] at ej
      obtain ⟨ov, q1, q2⟩ := k.sl j s ej
      refine ⟨ov, q1, ?_⟩
      rw [setFp_ne z]
      exact q2.keep eF fun b _ u hu => hu
  · by_cases z : j = i
    · subst z; exact setFp_same
    · rw [setFp_ne z]; exact k.out j (by simpa using hj)
  · by_cases z : j = i
    · subst z; rw [setFp_same] at h; cases h
    · rw [setFp_ne z] at h
      rw [upd_ne (other j b h z)]
      exact k.own j b h
  · by_cases z : j = i
    · subst z; rw [setFp_same] at h1; cases h1
    · by_cases y : l = i
      · subst y; rw [setFp_same] at h2; cases h2
      · rw [setFp_ne z] at h1; rw [setFp_ne y] at h2; exact k.dis j l b h1 h2
  · rw [upd_ne fun z => n i (by rw [hf, z]; simp)]; exact f
  · by_cases z : j = i
    · subst z; rw [setFp_same] at h; cases h
    · rw [setFp_ne z] at h; exact .inl ⟨j, h⟩
end

/-! ### judgements -/
section
variable (xad : Nat → Addr) (X : Cx) (W : WX)
def EvE (e : Expr) (w : WE) : Prop := ∀ F σ H ρ fp Φ Ψ Q, Ok X.K F H σ ρ fp → w ρ Φ Ψ → NCt X.K F H σ fp Φ Q → XCt xad X.K F H σ fp Ψ W → teW X e σ H Q
def EvO (e : Expr) (w : Env → OK_ → XKn → Prop) : Prop := ∀ F σ H ρ fp Ω Ψ Q, Ok X.K F H σ ρ fp → w ρ Ω Ψ →
  (∀ o ρ' v F' H' fp', Stp F H fp F' H' fp' → Ok X.K F' H' σ ρ' fp' → OdOk X.K F' σ o v → Ω o ρ' → Q v H') → XCt xad X.K F H σ fp Ψ W → teW X e σ H Q
def EvT (e : Expr) (w : WE) : Prop := ∀ F σ H ρ fp (Θ : Bool → Env → Prop) Ψ (Q : Bool → Hp → Prop), Ok X.K F H σ ρ fp → w ρ (fun d ρ' => ∃ c, d = .bl c ∧ Θ c ρ') Ψ →
  (∀ c ρ' F' H' fp', Stp F H fp F' H' fp' → Ok X.K F' H' σ ρ' fp' → Θ c ρ' → Q c H') → XCt xad X.K F H σ fp Ψ W → ttW X e σ H Q
def EvW (e : Expr) (w : WE) : Prop := ∀ F σ H ρ fp (Θ : Bool → Env → Prop) Ψ (Q : Bool → Hp → Prop), Ok X.K F H σ ρ fp → w ρ (fun d ρ' => ∃ c, d = .bl c ∧ Θ c ρ') Ψ →
  (∀ c ρ' F' H' fp', Stp F H fp F' H' fp' → Ok X.K F' H' σ ρ' fp' → Θ c ρ' → Q c H') → XCt xad X.K F H σ fp Ψ W → twW X e σ H Q
def EvEs (es : List Expr) (w : Env → (List D → Env → Prop) → XKn → Prop) : Prop := ∀ F σ H ρ fp Φ Ψ (Q : List V → Hp → Prop), Ok X.K F H σ ρ fp → w ρ Φ Ψ →
  (∀ ds ρ' vs F' H' fp', Stp F H fp F' H' fp' → Ok X.K F' H' σ ρ' fp' → RepL X.K F' ds vs → Φ ds ρ' → Q vs H') → XCt xad X.K F H σ fp Ψ W → taW X es σ H Q
def OdsOk (K : PySem.W.Frag) (F : Hp) (σ : L2.St) : List Od → List V → Prop
  | [], vs => vs = []
  | o :: os, vs => ∃ v r, vs = v :: r ∧ OdOk K F σ o v ∧ OdsOk K F σ os r
def EvOs (es : List Expr) (w : Env → (List Od → Env → Prop) → XKn → Prop) : Prop := ∀ F σ H ρ fp Φ Ψ (Q : List V → Hp → Prop), Ok X.K F H σ ρ fp → w ρ Φ Ψ →
  (∀ os ρ' vs F' H' fp', Stp F H fp F' H' fp' → Ok X.K F' H' σ ρ' fp' → OdsOk X.K F' σ os vs → Φ os ρ' → Q vs H') → XCt xad X.K F H σ fp Ψ W → taW X es σ H Q
def EvP (e : Option Expr) (w : Env → (Option Int → Env → Prop) → XKn → Prop) : Prop := ∀ F σ H ρ fp Φ Ψ (Q : Option Int → Hp → Prop), Ok X.K F H σ ρ fp → w ρ Φ Ψ →
  (∀ o ρ' F' H' fp', Stp F H fp F' H' fp' → Ok X.K F' H' σ ρ' fp' → Φ o ρ' → Q o H') → XCt xad X.K F H σ fp Ψ W → toW X e σ H Q
end
theorem OdsOk.mono {K : PySem.W.Frag} {F F1 : Hp} {σ : L2.St} (e : Ex F F1) : ∀ {os : List Od} {vs : List V}, OdsOk K F σ os vs → OdsOk K F1 σ os vs
  | [], _, h => h
  | _ :: _, _, ⟨v, r, e1, h1, h2⟩ => ⟨v, r, e1, h1.mono e, OdsOk.mono e h2⟩
theorem OdsOk.get {K : PySem.W.Frag} {F H : Hp} {σ : L2.St} {ρ : Env} {fp : Fp} (k : Ok K F H σ ρ fp) : ∀ {os : List Od} {vs : List V} {P : List D → Prop}, OdsOk K F σ os vs → odsP ρ os P → ∃ ds, P ds ∧ RepTs K F H ds vs
  | [], _, _, h, p => ⟨[], p, h⟩
  | o :: os, _, P, ⟨v, r, e1, h1, h2⟩, p => by
    obtain ⟨d, p2, q⟩ := h1.get k (show odP ρ o _ from p)
    obtain ⟨ds, p3, q3⟩ := OdsOk.get k h2 p2
    exact ⟨d :: ds, p3, v, r, e1, q, q3⟩

/-- no star: the expressions of this language -/
def plainE : Expr → Bool
  | .Starred _ _ => false
  | _ => true
theorem star_of {e : Expr} (h : plainE e = true) (es : List Expr) (env : PySem.Env) : starEach (e :: es) env = (false, eval e env) :: starEach es env := by
  cases e <;> first | rfl | exact absurd (show false = true from h) Bool.false_ne_true
theorem stars_of {env : PySem.Env} {pos : Pos} : ∀ {es : List Expr}, es.all plainE = true → (backTo pos (starEach es env)).any (·.1) = false
  | [], _ => rfl
  | e :: es, h => by
    simp only [List.all_cons, Bool.and_eq_true] at h
    rw [star_of h.1]
    show (false || (backTo pos (starEach es env)).any (·.1)) = false
    rw [stars_of h.2]
    rfl
section
variable {xad : Nat → Addr} {X : Cx} {W : WX} {a b c e : Expr} {es : List Expr} {wa wb wc : WE} {pos : Pos}
theorem EvE.o (h : EvE xad X W e wa) (n : ∀ ir, (∀ i, ir ≠ E.o i) → ∀ ρ Ω Ψ, opE ir wa ρ Ω Ψ → wa ρ (fun d ρ' => Ω (.val d) ρ') Ψ := by intros; assumption) {ir : E} (hn : ∀ i, ir ≠ E.o i) : EvO xad X W e (opE ir wa) :=
  fun F σ H ρ fp Ω Ψ Q k w q x => h F σ H ρ fp _ Ψ Q k (n ir hn ρ Ω Ψ w) (fun d ρ' v F' H' fp' s k' r p => q (.val d) ρ' v F' H' fp' s k' r p) x
theorem opE_of {ir : E} (hn : ∀ i, ir ≠ E.o i) {w : WE} {ρ : Env} {Ω : OK_} {Ψ : XKn} (h : opE ir w ρ Ω Ψ) : w ρ (fun d ρ' => Ω (.val d) ρ') Ψ := by
  cases ir <;> first | exact h | exact absurd rfl (hn _)
theorem r_bin {p : BOp} {wa wb : Env → OK_ → XKn → Prop} (ha : EvO xad X W a wa) (hb : EvO xad X W b wb) :
    EvE xad X W (.BinOp a (bopS p) b pos) (fun ρ Φ Ψ => wa ρ (fun oa ρ1 => wb ρ1 (fun ob ρ2 => odP ρ2 oa fun x => odP ρ2 ob fun y => binP p x y fun d => Φ d ρ2) Ψ) Ψ) := by
  intro F σ H ρ fp Φ Ψ Q k w nq xq
  refine teW_of (pe_op (r := fun x y H Q => Opn X (binaryOp (bopS p)) x y H Q) (fun pins s σ H x y v u Q I r1 r2 h => h pins s σ v u I r1 r2) pe_w pe_w) ?_
  refine ha F σ H ρ fp _ Ψ _ k w (fun oa ρ1 x F1 H1 fp1 s1 k1 r1 w1 => ?_) xq
  refine hb F1 σ H1 ρ1 fp1 _ Ψ _ k1 w1 (fun ob ρ2 y F2 H2 fp2 s2 k2 r2 w2 => ?_) (xq.step s1)
  obtain ⟨dx, w3, q1⟩ := (r1.mono s2.exF).get k2 w2
  obtain ⟨dy, w4, q2⟩ := r2.get k2 w3
  exact binP_ok w4 q1 q2 k2.ex ((nq.step (s1.trans s2)).kn k2 fun d h => h)
theorem r_cmp (hu : X.A.units + 65 < cLine) {p : COp} {wa wb : Env → OK_ → XKn → Prop} (hm : behindInMarks (copS p) b = false) (ha : EvO xad X W a wa) (hb : EvO xad X W b wb) :
    EvE xad X W (.Compare a [copS p] [b] pos) (fun ρ Φ Ψ => wa ρ (fun oa ρ1 => wb ρ1 (fun ob ρ2 => odP ρ2 oa fun x => odP ρ2 ob fun y => cmpP p x y fun c => Φ (.bl c) ρ2) Ψ) Ψ) := by
  intro F σ H ρ fp Φ Ψ Q k w nq xq
  refine teW_of (pe_cmpR (r := fun x y H Q => Opn X (compareOp (copS p)) x y H Q) (fun pins s σ H x y v u Q I r1 r2 h => h pins s σ v u I r1 r2) pe_w pe_w hm) ?_
  refine ha F σ H ρ fp _ Ψ _ k w (fun oa ρ1 x F1 H1 fp1 s1 k1 r1 w1 => ?_) xq
  refine hb F1 σ H1 ρ1 fp1 _ Ψ _ k1 w1 (fun ob ρ2 y F2 H2 fp2 s2 k2 r2 w2 => ?_) (xq.step s1)
  obtain ⟨dx, w3, q1⟩ := (r1.mono s2.exF).get k2 w2
  obtain ⟨dy, w4, q2⟩ := r2.get k2 w3
  exact cmpP_ok hu w4 q1 q2 k2.ex fun c h => (nq.step (s1.trans s2)).here k2 (d := .bl c) rfl h
theorem t_cmp (hu : X.A.units + 65 < cLine) {p : COp} {wa wb : Env → OK_ → XKn → Prop} (hm : behindInMarks (copS p) b = false) (ha : EvO xad X W a wa) (hb : EvO xad X W b wb) :
    EvT xad X W (.Compare a [copS p] [b] pos) (fun ρ Φ Ψ => wa ρ (fun oa ρ1 => wb ρ1 (fun ob ρ2 => odP ρ2 oa fun x => odP ρ2 ob fun y => cmpP p x y fun c => Φ (.bl c) ρ2) Ψ) Ψ) := by
  intro F σ H ρ fp Φ Ψ Q k w nq xq
  refine ttW_of (pt_cmpR (r := fun x y H Q => Opn X (compareOp (copS p)) x y H Q) (fun pins s σ H x y v u Q I r1 r2 h => h pins s σ v u I r1 r2) pe_w pe_w hm) ?_
  refine ha F σ H ρ fp _ Ψ _ k w (fun oa ρ1 x F1 H1 fp1 s1 k1 r1 w1 => ?_) xq
  refine hb F1 σ H1 ρ1 fp1 _ Ψ _ k1 w1 (fun ob ρ2 y F2 H2 fp2 s2 k2 r2 w2 => ?_) (xq.step s1)
  obtain ⟨dx, w3, q1⟩ := (r1.mono s2.exF).get k2 w2
  obtain ⟨dy, w4, q2⟩ := r2.get k2 w3
  refine cmpP_ok hu w4 q1 q2 k2.ex fun c ⟨c', ec, h⟩ => ⟨c, rfl, ?_⟩
  cases ec
  exact nq c ρ2 F2 H2 fp2 (s1.trans s2) k2 h
end
end Ts
set_option Elab.async false
set_option linter.all false
set_option maxRecDepth 100000
set_option maxHeartbeats 4000000
/-! Ts, eighth part: expressions, further. -/
namespace Ts
open PySem PySem.Spec PyProof.Rows L2
section
variable {xad : Nat → Addr} {X : Cx} {W : WX} {a b c e : Expr} {es : List Expr} {wa wb wc : WE} {pos : Pos} {T : Tb} {sm : Sm}

theorem r_var (hN : X.N = T.N) {i : Nat} {x : Str} (hi : T.N[i]? = some x) (hv : Vis X.env.scope x) (hd : (x == ("__debug__" : Str)) = false) (hcd : (x == ("__classdict__" : Str)) = false) :
    EvE xad X W (.Name x pos) (fun ρ Φ _ => varP ρ i Φ) := by
  intro F σ H ρ fp Φ Ψ Q k w nq xq
  have rd : ∀ {v : V}, σ[i]? = some (some v) → Q v H → teW X (.Name x pos) σ H Q := fun {v} e q => teW_of (pe_var (i := i) (by rw [hN]; exact hi) hv hd hcd) ⟨v, e, q⟩
  have w : varP ρ i Φ := w
  unfold varP at w
  split at w
  · rename_i d ed
    obtain ⟨v, e1, r⟩ := k.val ed
    exact rd e1 (nq.here k r w)
  · rename_i ds ed
    obtain ⟨v, F', e1, k', s', r⟩ := k.freeze ed
    exact rd e1 (nq _ _ v F' H _ s' k' r w)
  · exact False.elim w
theorem r_own (hN : X.N = T.N) {i : Nat} {x : Str} (hi : T.N[i]? = some x) (hv : Vis X.env.scope x) (hd : (x == ("__debug__" : Str)) = false) (hcd : (x == ("__classdict__" : Str)) = false) {w : WE} :
    EvO xad X W (.Name x pos) (opE (.o i) w) := by
  intro F σ H ρ fp Ω Ψ Q k w nq xq
  obtain ⟨h1, h2⟩ := w
  cases e : ρ[i]? with
  | none => rw [e] at h1; exact False.elim h1
  | some s =>
    rw [e] at h1
    obtain ⟨ov, e1, q⟩ := k.sl i s e
    obtain ⟨v, ev⟩ : ∃ v, ov = some v := by
      cases s with
      | no => exact False.elim h1
      | exc a => exact False.elim h1
      | val d => exact False.elim h1
      | lst ds => obtain ⟨a, _, z, _⟩ := q; exact ⟨_, z⟩
      | dct ks ds => obtain ⟨a, _, z, _⟩ := q; exact ⟨_, z⟩
      | ins c ns ds => obtain ⟨a, _, _, z, _⟩ := q; exact ⟨_, z⟩
    subst ev
    refine teW_of (pe_var (i := i) (by rw [hN]; exact hi) hv hd hcd) ⟨v, e1, ?_⟩
    exact nq (.own i) ρ v F H fp (Stp.refl F H fp) k e1 h2
theorem r_k {d : D} {cn : Const} {j : Nat} (h : match d, cn with | .non, .none => True | .bl b, .bool b' => b = b' | .int i, .int i' => i = i' | .str s, .str x => x = St s | _, _ => False) :
    EvE xad X W (.Constant cn j pos) (fun ρ Φ _ => Φ d ρ) := by
  intro F σ H ρ fp Φ Ψ Q k w nq xq
  split at h
  · exact teW_of pe_non (nq.here k (d := .non) rfl w)
  · subst h; exact teW_of pe_bl (nq.here k (d := .bl _) rfl w)
  · subst h; exact teW_of pe_int (nq.here k (d := .int _) rfl w)
  · subst h; exact teW_of pe_str (nq.here k (d := .str _) rfl w)
  · exact False.elim h
theorem r_g (g : Gd T sm xad X) {n : Nat} {x : Str} (hx : T.cn[n]? = some x) (hg : Gl X x) (hd : (x == ("__debug__" : Str)) = false) :
    EvE xad X W (.Name x pos) (fun ρ Φ _ => ∃ d, sm.cn[n]? = some d ∧ Φ d ρ) := by
  intro F σ H ρ fp Φ Ψ Q k ⟨d, e, w⟩ nq xq
  obtain ⟨v, u, h1, h2, h3⟩ := g.cn n x d hx e
  exact teW_of (pe_glob hg h1 h2 hd) (nq.here k (h3 F) w)
theorem r_neg (ha : EvE xad X W a wa) : EvE xad X W (.UnaryOp .USub a pos) (fun ρ Φ Ψ => wa ρ (fun d ρ' => ∃ i, d = .int i ∧ Φ (.int (-i)) ρ') Ψ) := by
  intro F σ H ρ fp Φ Ψ Q k w nq xq
  refine teW_of (pe_un un_neg pe_w) (ha F σ H ρ fp _ Ψ _ k w (fun d ρ1 v F1 H1 fp1 s1 k1 r1 w1 => ?_) xq)
  obtain ⟨i, ed, w2⟩ := w1
  subst ed
  exact ⟨i, r1, nq (.int (-i)) ρ1 _ F1 H1 fp1 s1 k1 rfl w2⟩
theorem r_notT (ha : EvT xad X W a wa) : EvT xad X W (.UnaryOp .Not a pos) (fun ρ Φ Ψ => wa ρ (fun d ρ' => ∃ c, d = .bl c ∧ Φ (.bl (!c)) ρ') Ψ) := by
  intro F σ H ρ fp Θ Ψ Q k w nq xq
  refine ttW_of (pt_not pt_w) (ha F σ H ρ fp (fun c ρ' => ∃ c', D.bl (!c) = .bl c' ∧ Θ c' ρ') Ψ _ k w (fun c ρ1 F1 H1 fp1 s1 k1 w1 => ?_) xq)
  obtain ⟨c', ec, w2⟩ := w1
  cases ec
  exact nq _ ρ1 F1 H1 fp1 s1 k1 w2
theorem r_not (ha : EvE xad X W a wa) : EvE xad X W (.UnaryOp .Not a pos) (fun ρ Φ Ψ => wa ρ (fun d ρ' => ∃ c, d = .bl c ∧ Φ (.bl (!c)) ρ') Ψ) := by
  intro F σ H ρ fp Φ Ψ Q k w nq xq
  refine teW_of (pe_not pe_w) (ha F σ H ρ fp _ Ψ _ k w (fun d ρ1 v F1 H1 fp1 s1 k1 r1 w1 => ?_) xq)
  obtain ⟨i, ed, w2⟩ := w1
  subst ed
  exact ⟨i, r1, nq (.bl (!i)) ρ1 _ F1 H1 fp1 s1 k1 rfl w2⟩
abbrev wAnd (wa wb : WE) : WE := fun ρ Φ Ψ => wa ρ (fun d ρ' => ∃ c, d = .bl c ∧ if c = true then wb ρ' (fun d' ρ'' => ∃ c', d' = .bl c' ∧ Φ (.bl c') ρ'') Ψ else Φ (.bl false) ρ') Ψ
abbrev wOr (wa wb : WE) : WE := fun ρ Φ Ψ => wa ρ (fun d ρ' => ∃ c, d = .bl c ∧ if c = true then Φ (.bl true) ρ' else wb ρ' (fun d' ρ'' => ∃ c', d' = .bl c' ∧ Φ (.bl c') ρ'') Ψ) Ψ
theorem r_and (ha : EvE xad X W a wa) (hb : EvE xad X W (.BoolOp .And (b :: es) pos) wb) : EvE xad X W (.BoolOp .And (a :: b :: es) pos) (wAnd wa wb) := by
  intro F σ H ρ fp Φ Ψ Q k w nq xq
  refine teW_of (pe_and pe_w pe_w) (ha F σ H ρ fp _ Ψ _ k w (fun d ρ1 v F1 H1 fp1 s1 k1 r1 w1 => ?_) xq)
  obtain ⟨c, ed, w2⟩ := w1
  subst ed
  refine ⟨c, r1, ?_⟩
  cases c with
  | true =>
    refine hb F1 σ H1 ρ1 fp1 _ Ψ _ k1 w2 (fun d' ρ2 v' F2 H2 fp2 s2 k2 r2 w3 => ?_) (xq.step s1)
    obtain ⟨c', ed, w4⟩ := w3
    subst ed
    exact nq (.bl c') ρ2 v' F2 H2 fp2 (s1.trans s2) k2 r2 w4
  | false => exact nq (.bl false) ρ1 _ F1 H1 fp1 s1 k1 rfl w2
theorem r_or (ha : EvE xad X W a wa) (hb : EvE xad X W (.BoolOp .Or (b :: es) pos) wb) : EvE xad X W (.BoolOp .Or (a :: b :: es) pos) (wOr wa wb) := by
  intro F σ H ρ fp Φ Ψ Q k w nq xq
  refine teW_of (pe_or pe_w pe_w) (ha F σ H ρ fp _ Ψ _ k w (fun d ρ1 v F1 H1 fp1 s1 k1 r1 w1 => ?_) xq)
  obtain ⟨c, ed, w2⟩ := w1
  subst ed
  refine ⟨c, r1, ?_⟩
  cases c with
  | false =>
    refine hb F1 σ H1 ρ1 fp1 _ Ψ _ k1 w2 (fun d' ρ2 v' F2 H2 fp2 s2 k2 r2 w3 => ?_) (xq.step s1)
    obtain ⟨c', ed, w4⟩ := w3
    subst ed
    exact nq (.bl c') ρ2 v' F2 H2 fp2 (s1.trans s2) k2 r2 w4
  | true => exact nq (.bl true) ρ1 _ F1 H1 fp1 s1 k1 rfl w2
theorem r_one {op : BoolOp} (ha : EvE xad X W a wa) : EvE xad X W (.BoolOp op [a] pos) wa :=
  fun F σ H ρ fp Φ Ψ Q k w nq xq => teW_of (pe_one pe_w) (ha F σ H ρ fp Φ Ψ Q k w nq xq)
theorem w_and (ha : EvT xad X W a wa) (hb : EvW xad X W (.BoolOp .And (b :: es) pos) wb) : EvW xad X W (.BoolOp .And (a :: b :: es) pos) (wAnd wa wb) := by
  intro F σ H ρ fp Θ Ψ Q k w nq xq
  refine twW_of (pw_and pt_w pw_w) (ha F σ H ρ fp (fun c ρ' => if c = true then wb ρ' (fun d' ρ'' => ∃ c', d' = .bl c' ∧ ∃ c2, D.bl c' = .bl c2 ∧ Θ c2 ρ'') Ψ else ∃ c2, D.bl false = .bl c2 ∧ Θ c2 ρ') Ψ _ k w (fun c ρ1 F1 H1 fp1 s1 k1 w1 => ?_) xq)
  cases c with
  | true =>
    refine hb F1 σ H1 ρ1 fp1 (fun c' ρ'' => ∃ c2, D.bl c' = .bl c2 ∧ Θ c2 ρ'') Ψ _ k1 w1 (fun c' ρ2 F2 H2 fp2 s2 k2 w3 => ?_) (xq.step s1)
    obtain ⟨c2, ed, w4⟩ := w3
    cases ed
    exact nq c' ρ2 F2 H2 fp2 (s1.trans s2) k2 w4
  | false =>
    obtain ⟨c2, ed, w2⟩ := w1
    cases ed
    exact nq false ρ1 F1 H1 fp1 s1 k1 w2
theorem w_or (ha : EvT xad X W a wa) (hb : EvW xad X W (.BoolOp .Or (b :: es) pos) wb) : EvW xad X W (.BoolOp .Or (a :: b :: es) pos) (wOr wa wb) := by
  intro F σ H ρ fp Θ Ψ Q k w nq xq
  refine twW_of (pw_or pt_w pw_w) (ha F σ H ρ fp (fun c ρ' => if c = true then ∃ c2, D.bl true = .bl c2 ∧ Θ c2 ρ' else wb ρ' (fun d' ρ'' => ∃ c', d' = .bl c' ∧ ∃ c2, D.bl c' = .bl c2 ∧ Θ c2 ρ'') Ψ) Ψ _ k w (fun c ρ1 F1 H1 fp1 s1 k1 w1 => ?_) xq)
  cases c with
  | false =>
    refine hb F1 σ H1 ρ1 fp1 (fun c' ρ'' => ∃ c2, D.bl c' = .bl c2 ∧ Θ c2 ρ'') Ψ _ k1 w1 (fun c' ρ2 F2 H2 fp2 s2 k2 w3 => ?_) (xq.step s1)
    obtain ⟨c2, ed, w4⟩ := w3
    cases ed
    exact nq c' ρ2 F2 H2 fp2 (s1.trans s2) k2 w4
  | true =>
    obtain ⟨c2, ed, w2⟩ := w1
    cases ed
    exact nq true ρ1 F1 H1 fp1 s1 k1 w2
theorem w_one {op : BoolOp} (ha : EvT xad X W a wa) : EvW xad X W (.BoolOp op [a] pos) wa := by
  intro F σ H ρ fp Θ Ψ Q k w nq xq
  cases op with
  | And => exact twW_of (pw_and1 pt_w) (ha F σ H ρ fp Θ Ψ Q k w nq xq)
  | Or => exact twW_of (pw_or1 pt_w) (ha F σ H ρ fp Θ Ψ Q k w nq xq)
theorem EvW.t (h : EvW xad X W a wa) : EvT xad X W a wa := fun F σ H ρ fp Θ Ψ Q k w nq xq => ttW_of (PW.pt pw_w) (h F σ H ρ fp Θ Ψ Q k w nq xq)
/-- a value that is a truth, as a test -/
theorem EvE.t (h : EvE xad X W a wa) (he : ∀ whole, isTrue a X.env whole = (do let v ← whole; standAt a.pos; holding [v] (truthy v))) : EvT xad X W a wa := by
  intro F σ H ρ fp Θ Ψ Q k w nq xq
  refine ttW_of (pt_val pe_w he) (h F σ H ρ fp _ Ψ _ k w (fun d ρ1 v F1 H1 fp1 s1 k1 r1 w1 => ?_) xq)
  obtain ⟨c, ed, w2⟩ := w1
  subst ed
  exact ⟨c, r1, nq c ρ1 F1 H1 fp1 s1 k1 w2⟩
theorem r_cmp2 (hu : X.A.units + 65 < cLine) {p q : COp} (hm : lastMarks [copS p, copS q] [b, c] = false) (ha : EvE xad X W a wa) (hb : EvE xad X W b wb) (hc : EvE xad X W c wc) :
    EvE xad X W (.Compare a [copS p, copS q] [b, c] pos) (fun ρ Φ Ψ => wa ρ (fun da ρ1 => wb ρ1 (fun db ρ2 => cmpP p da db (fun k => if k = true then wc ρ2 (fun dc ρ3 => cmpP q db dc (fun k' => Φ (.bl k') ρ3)) Ψ else Φ (.bl false) ρ2)) Ψ) Ψ) := by
  intro F σ H ρ fp Φ Ψ Q k w nq xq
  refine teW_of (pe_chain (r := fun x y H Q => Opn X (compareOp (copS p)) x y H Q) (r' := fun x y H Q => Opn X (compareOp (copS q)) x y H Q) (fun pins s σ H x y v u Q I r1 r2 h => h pins s σ v u I r1 r2) (fun pins s σ H x y v u Q I r1 r2 h => h pins s σ v u I r1 r2) pe_w pe_w pe_w hm) ?_
  refine ha F σ H ρ fp _ Ψ _ k w (fun da ρ1 x F1 H1 fp1 s1 k1 r1 w1 => ?_) xq
  refine hb F1 σ H1 ρ1 fp1 _ Ψ _ k1 w1 (fun db ρ2 y F2 H2 fp2 s2 k2 r2 w2 => ?_) (xq.step s1)
  refine cmpP_ok hu w2 ((r1.mono s2.exF).t k2.ex) (r2.t k2.ex) k2.ex fun c w3 => ⟨c, rfl, ?_⟩
  cases c with
  | false => exact (nq.step (s1.trans s2)).here k2 (d := .bl false) rfl w3
  | true =>
    refine hc F2 σ H2 ρ2 fp2 _ Ψ _ k2 w3 (fun dc ρ3 z F3 H3 fp3 s3 k3 r3 w4 => ?_) (xq.step (s1.trans s2))
    exact cmpP_ok hu w4 ((r2.mono s3.exF).t k3.ex) (r3.t k3.ex) k3.ex fun c h => (nq.step ((s1.trans s2).trans s3)).here k3 (d := .bl c) rfl h
theorem t_cmp2 (hu : X.A.units + 65 < cLine) {p q : COp} (hm : lastMarks [copS p, copS q] [b, c] = false) (ha : EvE xad X W a wa) (hb : EvE xad X W b wb) (hc : EvE xad X W c wc) :
    EvT xad X W (.Compare a [copS p, copS q] [b, c] pos) (fun ρ Φ Ψ => wa ρ (fun da ρ1 => wb ρ1 (fun db ρ2 => cmpP p da db (fun k => if k = true then wc ρ2 (fun dc ρ3 => cmpP q db dc (fun k' => Φ (.bl k') ρ3)) Ψ else Φ (.bl false) ρ2)) Ψ) Ψ) := by
  intro F σ H ρ fp Θ Ψ Q k w nq xq
  refine ttW_of (pt_chain (r := fun x y H Q => Opn X (compareOp (copS p)) x y H Q) (r' := fun x y H Q => Opn X (compareOp (copS q)) x y H Q) (fun pins s σ H x y v u Q I r1 r2 h => h pins s σ v u I r1 r2) (fun pins s σ H x y v u Q I r1 r2 h => h pins s σ v u I r1 r2) pe_w pe_w pe_w hm) ?_
  refine ha F σ H ρ fp _ Ψ _ k w (fun da ρ1 x F1 H1 fp1 s1 k1 r1 w1 => ?_) xq
  refine hb F1 σ H1 ρ1 fp1 _ Ψ _ k1 w1 (fun db ρ2 y F2 H2 fp2 s2 k2 r2 w2 => ?_) (xq.step s1)
  refine cmpP_ok hu w2 ((r1.mono s2.exF).t k2.ex) (r2.t k2.ex) k2.ex fun c w3 => ⟨c, rfl, ?_⟩
  cases c with
  | false =>
    obtain ⟨c2, ed, w4⟩ := w3
    cases ed
    exact ⟨false, rfl, nq false ρ2 F2 H2 fp2 (s1.trans s2) k2 w4⟩
  | true =>
    refine hc F2 σ H2 ρ2 fp2 _ Ψ _ k2 w3 (fun dc ρ3 z F3 H3 fp3 s3 k3 r3 w4 => ?_) (xq.step (s1.trans s2))
    refine cmpP_ok hu w4 ((r2.mono s3.exF).t k3.ex) (r3.t k3.ex) k3.ex fun c ⟨c2, ed, h⟩ => ?_
    cases ed
    exact ⟨c, rfl, nq c ρ3 F3 H3 fp3 ((s1.trans s2).trans s3) k3 h⟩
theorem r_ite (hc : EvT xad X W c wc) (ha : EvE xad X W a wa) (hb : EvE xad X W b wb) : EvE xad X W (.IfExp c a b pos) (fun ρ Φ Ψ => wc ρ (fun d ρ' => ∃ k, d = .bl k ∧ if k = true then wa ρ' Φ Ψ else wb ρ' Φ Ψ) Ψ) := by
  intro F σ H ρ fp Φ Ψ Q k w nq xq
  refine teW_of (pe_ifExp pt_w pe_w pe_w) (hc F σ H ρ fp (fun c ρ' => if c = true then wa ρ' Φ Ψ else wb ρ' Φ Ψ) Ψ _ k w (fun c ρ1 F1 H1 fp1 s1 k1 w1 => ?_) xq)
  cases c with
  | true => exact ha F1 σ H1 ρ1 fp1 Φ Ψ Q k1 w1 (nq.step s1) (xq.step s1)
  | false => exact hb F1 σ H1 ρ1 fp1 Φ Ψ Q k1 w1 (nq.step s1) (xq.step s1)

/-! ### lists of expressions -/
theorem es_nil : EvEs xad X W [] (fun ρ Φ _ => Φ [] ρ) := fun F σ H ρ fp Φ Ψ Q k w nq xq => taW_of pa_nil (nq [] ρ [] F H fp (Stp.refl F H fp) k rfl w)
theorem es_cons {wr : Env → (List D → Env → Prop) → XKn → Prop} (hp : plainE a = true) (ha : EvE xad X W a wa) (hr : EvEs xad X W es wr) :
    EvEs xad X W (a :: es) (fun ρ Φ Ψ => wa ρ (fun d ρ' => wr ρ' (fun ds ρ'' => Φ (d :: ds) ρ'') Ψ) Ψ) := by
  intro F σ H ρ fp Φ Ψ Q k w nq xq
  refine taW_of (pa_cons pe_w pa_w (star_of hp _ _)) (ha F σ H ρ fp _ Ψ _ k w (fun d ρ1 v F1 H1 fp1 s1 k1 r1 w1 => ?_) xq)
  refine hr F1 σ H1 ρ1 fp1 _ Ψ _ k1 w1 (fun ds ρ2 vs F2 H2 fp2 s2 k2 r2 w2 => ?_) (xq.step s1)
  exact nq (d :: ds) ρ2 (v :: vs) F2 H2 fp2 (s1.trans s2) k2 ⟨v, vs, rfl, r1.mono s2.exF, r2⟩ w2
theorem os_nil : EvOs xad X W [] (fun ρ Φ _ => Φ [] ρ) := fun F σ H ρ fp Φ Ψ Q k w nq xq => taW_of pa_nil (nq [] ρ [] F H fp (Stp.refl F H fp) k rfl w)
theorem os_cons {wo : Env → OK_ → XKn → Prop} {wr : Env → (List Od → Env → Prop) → XKn → Prop} (hp : plainE a = true) (ha : EvO xad X W a wo) (hr : EvOs xad X W es wr) :
    EvOs xad X W (a :: es) (fun ρ Φ Ψ => wo ρ (fun d ρ' => wr ρ' (fun ds ρ'' => Φ (d :: ds) ρ'') Ψ) Ψ) := by
  intro F σ H ρ fp Φ Ψ Q k w nq xq
  refine taW_of (pa_cons pe_w pa_w (star_of hp _ _)) (ha F σ H ρ fp _ Ψ _ k w (fun d ρ1 v F1 H1 fp1 s1 k1 r1 w1 => ?_) xq)
  refine hr F1 σ H1 ρ1 fp1 _ Ψ _ k1 w1 (fun ds ρ2 vs F2 H2 fp2 s2 k2 r2 w2 => ?_) (xq.step s1)
  exact nq (d :: ds) ρ2 (v :: vs) F2 H2 fp2 (s1.trans s2) k2 ⟨v, vs, rfl, r1.mono s2.exF, r2⟩ w2
theorem p_none : EvP xad X W none (fun ρ Φ _ => Φ none ρ) := fun F σ H ρ fp Φ Ψ Q k w nq xq => toW_of po_none (nq none ρ F H fp (Stp.refl F H fp) k w)
theorem p_some (ha : EvE xad X W a wa) : EvP xad X W (some a) (fun ρ Φ Ψ => wa ρ (fun d ρ' => ∃ i, d = .int i ∧ Φ (some i) ρ') Ψ) := by
  intro F σ H ρ fp Φ Ψ Q k w nq xq
  refine toW_of (po_some pe_w) (ha F σ H ρ fp _ Ψ _ k w (fun d ρ1 v F1 H1 fp1 s1 k1 r1 w1 => ?_) xq)
  obtain ⟨i, ed, w2⟩ := w1
  subst ed
  exact ⟨i, r1, nq (some i) ρ1 F1 H1 fp1 s1 k1 w2⟩
theorem r_tup {kk : Nat} {ws : Env → (List D → Env → Prop) → XKn → Prop} (h : EvEs xad X W es ws) : EvE xad X W (.Tuple es kk pos) (fun ρ Φ Ψ => ws ρ (fun ds ρ' => ds.length ≤ line ∧ Φ (.tup ds) ρ') Ψ) := by
  intro F σ H ρ fp Φ Ψ Q k w nq xq
  refine teW_of (pe_tup pa_w) (h F σ H ρ fp _ Ψ _ k w (fun ds ρ1 vs F1 H1 fp1 s1 k1 r1 w1 => ?_) xq)
  exact ⟨by rw [r1.len, line_eq]; exact w1.1, ((nq.step s1).kn k1 (P := fun d => Φ d ρ1) fun _ h => h).tup k1.ex r1 w1.2⟩
/-- a new list, nobody's yet -/
def EvN (xad : Nat → Addr) (X : Cx) (W : WX) (e : Expr) (w : WE) : Prop := ∀ F σ H ρ fp (Φ : List D → Env → Prop) Ψ Q, Ok X.K F H σ ρ fp → w ρ (fun d ρ' => ∃ ds, d = .lst ds ∧ Φ ds ρ') Ψ →
  (∀ ds ρ' p vs F' H' fp', Stp F H fp F' H' fp' → Ok X.K F' H' σ ρ' fp' → H p = none → F' p = none → H' p = some (.lst vs) → (∀ i, p ∉ fp' i) → RepL X.K F' ds vs → Φ ds ρ' → Q (.ref p) H') → XCt xad X.K F H σ fp Ψ W → teW X e σ H Q
theorem Stp.back {F H F' H' : Hp} {fp fp' : Fp} (s : Stp F H fp F' H' fp') {p : Addr} (h : H' p = none) : H p = none := by
  cases q : H p with
  | none => rfl
  | some o => exact absurd h (s.thr p (by rw [q]; simp))
theorem new_lst {K : PySem.W.Frag} {F H : Hp} {σ : L2.St} {ρ : Env} {fp : Fp} {vs : List V} (k : Ok K F H σ ρ fp) {p : Addr} (hp : H p = none) :
    Stp F H fp F (upd H p (.lst vs)) fp ∧ Ok K F (upd H p (.lst vs)) σ ρ fp ∧ F p = none ∧ upd H p (.lst vs) p = some (.lst vs) ∧ ∀ i, p ∉ fp i := by
  have x := Ext.updH (o := .lst vs) k.ex hp
  refine ⟨x.stp, k.ext x, ?_, upd_same, fun i hi => (k.own i p hi).2 hp⟩
  cases q : F p with
  | none => rfl
  | some u => rw [k.ex p u q] at hp; cases hp
theorem n_lst {ws : Env → (List D → Env → Prop) → XKn → Prop} (h : EvEs xad X W es ws) : EvN xad X W (.List es pos) (fun ρ Φ Ψ => ws ρ (fun ds ρ' => ds.length ≤ line ∧ Φ (.lst ds) ρ') Ψ) := by
  intro F σ H ρ fp Φ Ψ Q k w nq xq
  refine teW_of (pe_lst pa_w) (h F σ H ρ fp _ Ψ _ k w (fun ds ρ1 vs F1 H1 fp1 s1 k1 r1 w1 => ?_) xq)
  obtain ⟨h1, ds', ed, w2⟩ := w1
  cases ed
  exact ⟨by rw [r1.len, line_eq]; exact h1, fun p hp => by
    obtain ⟨n1, n2, n3, n4, n5⟩ := new_lst (vs := vs) k1 hp
    exact nq ds ρ1 p vs F1 _ fp1 (s1.trans n1) n2 (s1.back hp) n3 n4 n5 r1 w2⟩
theorem r_lst {ws : Env → (List D → Env → Prop) → XKn → Prop} (h : EvEs xad X W es ws) : EvE xad X W (.List es pos) (fun ρ Φ Ψ => ws ρ (fun ds ρ' => ds.length ≤ line ∧ Φ (.lst ds) ρ') Ψ) := by
  intro F σ H ρ fp Φ Ψ Q k w nq xq
  refine teW_of (pe_lst pa_w) (h F σ H ρ fp _ Ψ _ k w (fun ds ρ1 vs F1 H1 fp1 s1 k1 r1 w1 => ?_) xq)
  exact ⟨by rw [r1.len, line_eq]; exact w1.1, ((nq.step s1).kn k1 (P := fun d => Φ d ρ1) fun _ h => h).lst k1.ex r1 w1.2⟩
theorem r_ix {wo : Env → OK_ → XKn → Prop} (hs : PlainIx b) (ha : EvO xad X W a wo) (hb : EvE xad X W b wb) :
    EvE xad X W (.Subscript a b pos) (fun ρ Φ Ψ => wo ρ (fun oa ρ1 => wb ρ1 (fun di ρ2 => odP ρ2 oa fun x => ixP x di fun d => Φ d ρ2) Ψ) Ψ) := by
  intro F σ H ρ fp Φ Ψ Q k w nq xq
  refine teW_of (pe_ix (r := fun x y H Q => Ixn X x y H Q) (fun va sl pins s σ H x y v u Q I r1 r2 h hs => h va sl pins s σ v u I r1 r2 hs) pe_w pe_w hs) ?_
  refine ha F σ H ρ fp _ Ψ _ k w (fun oa ρ1 x F1 H1 fp1 s1 k1 r1 w1 => ?_) xq
  refine hb F1 σ H1 ρ1 fp1 _ Ψ _ k1 w1 (fun di ρ2 y F2 H2 fp2 s2 k2 r2 w2 => ?_) (xq.step s1)
  obtain ⟨dx, w3, q1⟩ := (r1.mono s2.exF).get k2 w2
  exact ixP_ok w3 q1 (r2.t k2.ex) k2.ex ((nq.step (s1.trans s2)).kn k2 fun d h => h)
theorem r_sl {lo hi : Option Expr} {p2 : Pos} {wo : Env → OK_ → XKn → Prop} {wl wh : Env → (Option Int → Env → Prop) → XKn → Prop} (ha : EvO xad X W a wo) (hl : EvP xad X W lo wl) (hh : EvP xad X W hi wh) :
    EvE xad X W (.Subscript a (.Slice lo hi none p2) pos) (fun ρ Φ Ψ => wo ρ (fun oa ρ1 => wl ρ1 (fun l ρ2 => wh ρ2 (fun h ρ3 => odP ρ3 oa fun x => slP x l h fun d => Φ d ρ3) Ψ) Ψ) Ψ) := by
  intro F σ H ρ fp Φ Ψ Q k w nq xq
  refine teW_of (pe_slice (r := fun x lo hi H Q => Sln X x lo hi H Q) (fun pins s σ H x v vl vu lo hi sl Q I r1 hs p1 p2 h => h pins s σ v vl vu sl I r1 hs p1 p2) pe_w po_w po_w) ?_
  refine ha F σ H ρ fp _ Ψ _ k w (fun oa ρ1 x F1 H1 fp1 s1 k1 r1 w1 => ?_) xq
  refine hl F1 σ H1 ρ1 fp1 _ Ψ _ k1 w1 (fun l ρ2 F2 H2 fp2 s2 k2 w2 => ?_) (xq.step s1)
  refine hh F2 σ H2 ρ2 fp2 _ Ψ _ k2 w2 (fun h ρ3 F3 H3 fp3 s3 k3 w3 => ?_) (xq.step (s1.trans s2))
  obtain ⟨dx, w4, q1⟩ := (r1.mono (s2.trans s3).exF).get k3 w3
  exact slP_ok w4 q1 k3.ex ((nq.step ((s1.trans s2).trans s3)).kn k3 fun d h => h)
end
end Ts
set_option Elab.async false
set_option linter.all false
set_option maxRecDepth 100000
set_option maxHeartbeats 4000000
/-! Ts, ninth part: calls, targets, what is walked, comprehensions. -/
namespace Ts
open PySem PySem.Spec PyProof.Rows L2
section
variable {xad : Nat → Addr} {X : Cx} {W : WX} {a b c e : Expr} {es : List Expr} {wa wb wc : WE} {pos p p0 : Pos} {T : Tb} {sm : Sm}

/-! ### calls -/
theorem call_ok (tk : Takes X W) {x : Str} {sp : PSpec} (cl : Cal1 xad X x sp) (hg : Gl X x) (hd : (x == ("__debug__" : Str)) = false) (hp : (e :: es).all plainE = true) : PE X (.Call (.Name x p) (e :: es) [] pos) (tCallSD (spP xad X.K sp) [] (L2.WE W) (taW X (e :: es))) := by
  obtain ⟨k, f, fd, ps, F, hr, hm, hk, hb⟩ := cl.ex
  simp only [List.all_cons, Bool.and_eq_true] at hp
  exact pe_callSD F hr hg hm hk hb .nil (fun σ => passAt tk σ) pa_w hd (star_of hp.1 _ _) (stars_of hp.2)
theorem call0_ok (tk : Takes X W) {x : Str} {sp : PSpec} (cl : Cal1 xad X x sp) (hg : Gl X x) (hd : (x == ("__debug__" : Str)) = false) : PE X (.Call (.Name x p) [] [] pos) (tCallSD (spP xad X.K sp) [] (L2.WE W) tNil) := by
  obtain ⟨k, f, fd, ps, F, hr, hm, hk, hb⟩ := cl.ex
  refine ⟨fun pins s σ H Q I h => ?_⟩
  exact wpAny_Call_Name_kw (ld_glob I hg hm (PySem.W.callWith_K0 I.kIn hk (run_fnSD (us := []) F hr hb .nil (passAt tk σ) I .nil h)) hd)
abbrev wCall (sm : Sm) (n : Nat) (ws : Env → (List D → Env → Prop) → XKn → Prop) : WE := fun ρ Φ Ψ => ws ρ (fun ds ρ' => ∃ sp, sm.fn[n]? = some sp ∧ ds.length = sp.ar ∧ ∃ g, sp.pre g ds ∧ (∀ d, sp.ret g d → Φ d ρ') ∧ ∀ c, sp.exc g c → Ψ c ρ') Ψ
theorem r_call (g : Gd T sm xad X) (hh : T.hot = false) (tk : Takes X W) {n : Nat} {x : Str} (hx : T.fn[n]? = some x) (hg : Gl X x) (hd : (x == ("__debug__" : Str)) = false) (hp : es.all plainE = true)
    {ws : Env → (List D → Env → Prop) → XKn → Prop} (h : EvEs xad X W es ws) (h0 : es = [] → ws = fun ρ Φ _ => Φ [] ρ) : EvE xad X W (.Call (.Name x p) es [] pos) (wCall sm n ws) := by
  intro F σ H ρ fp Φ Ψ Q k w nq xq
  have fin : ∀ {ds : List D} {ρ1 : Env} {vs : List V} {F1 H1 : Hp} {fp1 : Fp} {sp : PSpec} {gh : sp.G}, Stp F H fp F1 H1 fp1 → Ok X.K F1 H1 σ ρ1 fp1 → RepL X.K F1 ds vs → ds.length = sp.ar → sp.pre gh ds → (∀ d, sp.ret gh d → Φ d ρ1) → (∀ c, sp.exc gh c → Ψ c ρ1) →
      spP xad X.K sp (vs ++ []) H1 Q (L2.WE W σ) := fun {ds ρ1 vs F1 H1 fp1 sp gh} s1 k1 r1 h1 h2 h3 h4 => by
    rw [List.append_nil]
    refine ⟨by rw [r1.len, h1], F1, ds, gh, k1.ex, r1, h2, fun d v F2 H2 e q rt => ?_, fun c F2 H2 e ec => ?_⟩
    · exact nq d ρ1 v F2 H2 fp1 (s1.trans e.stp) (k1.ext e) q (h3 d rt)
    · exact xq c ρ1 F2 H2 fp1 (s1.trans e.stp) (k1.ext e) (h4 c ec)
  by_cases hes : es = []
  · subst hes
    have w2 : wCall sm n ws ρ Φ Ψ := w
    unfold wCall at w2
    rw [h0 rfl] at w2
    obtain ⟨sp, e1, h1, gh, h2, h3, h4⟩ := w2
    obtain ⟨sp', hs, cl⟩ := g.fn hh n x hx
    rw [hs] at e1
    cases e1
    exact teW_of (call0_ok tk cl hg hd) (fin (Stp.refl F H fp) k (ds := []) rfl h1 h2 h3 h4)
  · obtain ⟨e, es', ee⟩ : ∃ e es', es = e :: es' := by
      cases es with
      | nil => exact absurd rfl hes
      | cons e es' => exact ⟨e, es', rfl⟩
    subst ee
    obtain ⟨sp, hs, cl⟩ := g.fn hh n x hx
    refine teW_of (call_ok tk cl hg hd hp) (h F σ H ρ fp _ Ψ _ k w (fun ds ρ1 vs F1 H1 fp1 s1 k1 r1 w1 => ?_) xq)
    obtain ⟨sp', e1, h1, gh, h2, h3, h4⟩ := w1
    rw [hs] at e1
    cases e1
    exact fin s1 k1 r1 h1 h2 h3 h4
/-! ### built-ins -/
theorem boot_bi (f : BI) : bootBuiltins (Str.ofString (biS f)) = some (biV f) := by
  cases f <;> first | (with_reducible rfl) | decide +kernel | skip
  all_goals (show bootBuiltins (Str.ofString "isinstance") = some (.builtin "isinstance"); decide +kernel)
theorem boot_ty (t : Ty) : bootBuiltins (Str.ofString (tyS t)) = some (.type (tyS t)) := by cases t <;> decide +kernel
theorem bi_name (f : BI) : Str.ofString (biS f) ≠ "__name__" ∧ (Str.ofString (biS f) == ("__debug__" : Str)) = false := by
  cases f <;> first | decide +kernel | skip
  all_goals (show Str.ofString "isinstance" ≠ "__name__" ∧ (Str.ofString "isinstance" == ("__debug__" : Str)) = false; decide +kernel)
theorem ty_name (t : Ty) : Str.ofString (tyS t) ≠ "__name__" ∧ (Str.ofString (tyS t) == ("__debug__" : Str)) = false := by cases t <;> decide +kernel
def isIsi : BI → Bool
  | .isi _ => true
  | _ => false
theorem biV_cases (f : BI) : (∃ n, biV f = .type n) ∨ ∃ n, biV f = .builtin n := by
  unfold biV
  cases biIsTy f
  · exact .inr ⟨_, rfl⟩
  · exact .inl ⟨_, rfl⟩
theorem pe_bi (f : BI) (hg : Gl X (Str.ofString (biS f))) (hm : X.mg (Str.ofString (biS f)) = none) (hp : (e :: es).all plainE = true) :
    PE X (.Call (.Name (Str.ofString (biS f)) p) (e :: es) [] pos) (tCB (fun vs H Q => Clb X (biV f) vs H Q) (taW X (e :: es))) := by
  have hp' := hp
  simp only [List.all_cons, Bool.and_eq_true] at hp
  have hv := boot_bi f
  obtain ⟨n1, n2⟩ := bi_name f
  rcases biV_cases f with ⟨n, q⟩ | ⟨n, q⟩
  · rw [q] at hv ⊢
    exact pe_callTy (fun pins s σ H xs us Q I r h => h pins s σ us I r) hg hm hv pa_w n1 n2 (star_of hp.1 _ _) (stars_of hp.2)
  · rw [q] at hv ⊢
    exact pe_callB (fun pins s σ H xs us Q I r h => h pins s σ us I r) hg hm hv pa_w n1 n2 (star_of hp.1 _ _) (stars_of hp.2)
abbrev wBi (f : BI) (ws : Env → (List Od → Env → Prop) → XKn → Prop) : WE := fun ρ Φ Ψ => ws ρ (fun os ρ' => odsP ρ' os fun ds => biP f ds fun d => Φ d ρ') Ψ
theorem r_bi (hc : X.calm = true) (f : BI) (hi : isIsi f = false) (hg : Gl X (Str.ofString (biS f))) (hm : X.mg (Str.ofString (biS f)) = none) (hp : (e :: es).all plainE = true) {ws : Env → (List Od → Env → Prop) → XKn → Prop} (h : EvOs xad X W (e :: es) ws) :
    EvE xad X W (.Call (.Name (Str.ofString (biS f)) p) (e :: es) [] pos) (wBi f ws) := by
  intro F σ H ρ fp Φ Ψ Q k w nq xq
  refine teW_of (pe_bi f hg hm hp) (h F σ H ρ fp _ Ψ _ k w (fun os ρ1 vs F1 H1 fp1 s1 k1 r1 w1 => ?_) xq)
  obtain ⟨ds, w2, q⟩ := r1.get k1 w1
  have z := biP_ok hc w2 q k1.ex ((nq.step s1).kn k1 fun d h => h)
  have e2 : biMore f = [] := by cases f <;> first | rfl | exact absurd (show true = false from hi) (by decide)
  rw [e2, List.append_nil] at z
  exact z
/-- isinstance(a, T) -/
theorem r_isi (hc : X.calm = true) (t : Ty) (hg : Gl X (Str.ofString "isinstance")) (hm : X.mg (Str.ofString "isinstance") = none) (hgt : Gl X (Str.ofString (tyS t))) (hmt : X.mg (Str.ofString (tyS t)) = none) (hp : plainE a = true)
    {wo : Env → OK_ → XKn → Prop} (ha : EvO xad X W a wo) : EvE xad X W (.Call (.Name (Str.ofString "isinstance") p) [a, .Name (Str.ofString (tyS t)) p0] [] pos) (wBi (.isi t) (fun ρ Φ Ψ => wo ρ (fun d ρ' => Φ [d] ρ') Ψ)) := by
  intro F σ H ρ fp Φ Ψ Q k w nq xq
  have n2 := ty_name t
  have pt : PE X (.Name (Str.ofString (tyS t)) p0) (tC (.ty (tyS t))) := pe_bltn hgt hmt (boot_ty t) rfl n2.1 n2.2
  refine teW_of (pe_bi (.isi t) hg hm (by rw [List.all_cons, hp]; rfl)) ?_
  refine taW_of (pa_cons pe_w (pa_cons pt pa_nil) (star_of hp _ _)) ?_
  refine ha F σ H ρ fp _ Ψ _ k w (fun o ρ1 v F1 H1 fp1 s1 k1 r1 w1 => ?_) xq
  obtain ⟨d, w2, q⟩ := r1.get k1 w1
  exact biP_ok hc (f := .isi t) (ds := [d]) (P := fun d => Φ d ρ1) w2 ⟨v, [], rfl, q, rfl⟩ k1.ex ((nq.step s1).kn k1 fun d h => h)
/-- list(x), a new list -/
theorem n_list (hc : X.calm = true) (hg : Gl X (Str.ofString "list")) (hm : X.mg (Str.ofString "list") = none) (hp : plainE a = true) {wo : Env → OK_ → XKn → Prop} (ha : EvO xad X W a wo) :
    EvN xad X W (.Call (.Name (Str.ofString "list") p) [a] [] pos) (wBi .list (fun ρ Φ Ψ => wo ρ (fun d ρ' => Φ [d] ρ') Ψ)) := by
  intro F σ H ρ fp Φ Ψ Q k w nq xq
  refine teW_of (pe_bi .list hg hm (by rw [List.all_cons, hp]; rfl)) ?_
  refine taW_of (pa_cons pe_w pa_nil (star_of hp _ _)) ?_
  refine ha F σ H ρ fp _ Ψ _ k w (fun o ρ1 v F1 H1 fp1 s1 k1 r1 w1 => ?_) xq
  obtain ⟨d, w2, q⟩ := r1.get k1 w1
  have fin : ∀ {ds : List D} {vs : List V}, RepL X.K F1 ds vs → Φ ds ρ1 → ∀ p, H1 p = none → Q (.ref p) (upd H1 p (.lst vs)) := fun {ds vs} r h p hp => by
    obtain ⟨n1, n2, n3, n4, n5⟩ := new_lst (vs := vs) k1 hp
    exact nq ds ρ1 p vs F1 _ fp1 (s1.trans n1) n2 (s1.back hp) n3 n4 n5 r h
  match d, w2, q with
  | .lst es, w2, q =>
    obtain ⟨ds', ed, w3⟩ := w2
    cases ed
    obtain ⟨a, us, e1, q1, q2⟩ := q
    subst e1
    exact Clb.of call_list_of ⟨a, us, rfl, .inl q1, fin q2 w3⟩
  | .tup es, w2, q =>
    obtain ⟨ds', ed, w3⟩ := w2
    cases ed
    obtain ⟨a, us, e1, q1, q2⟩ := q
    subst e1
    exact Clb.of call_list_of ⟨a, us, rfl, .inr (ex_t k1.ex q1), fin q2 w3⟩
theorem rgV_rep {K : PySem.W.Frag} {H : Hp} (a b : Int) : RepL K H (rngD a b) (rgV a b) := by
  unfold rngD rgV
  induction List.range (b - a).toNat with
  | nil => rfl
  | cons i r ih => exact ⟨_, _, rfl, rfl, ih⟩
theorem r_lrng (hc : X.calm = true) (hg : Gl X "list") (hm : X.mg "list" = none) (hg2 : Gl X "range") (hm2 : X.mg "range" = none) (hp : plainE a = true) {p2 : Pos} (ha : EvE xad X W a wa) :
    EvE xad X W (.Call (.Name "list" p) [.Call (.Name "range" p0) [a] [] p2] [] pos) (fun ρ Φ Ψ => wa ρ (fun d ρ' => ∃ i, d = .int i ∧ 0 ≤ i ∧ i ≤ line ∧ Φ (.lst (rngD 0 i)) ρ') Ψ) := by
  intro F σ H ρ fp Φ Ψ Q k w nq xq
  refine teW_of (pe_listRg hc hg hm (prg_1 hg2 hm2 pe_w (star_of hp _ _)) rfl) (ha F σ H ρ fp _ Ψ _ k w (fun d ρ1 v F1 H1 fp1 s1 k1 r1 w1 => ?_) xq)
  obtain ⟨i, ed, h0, h1, w2⟩ := w1
  subst ed
  exact ⟨i, r1, .of_le (by decide) h1 (by decide) h0, ((nq.step s1).kn k1 (P := fun d => Φ d ρ1) fun _ h => h).lst k1.ex (rgV_rep 0 i) w2⟩

/-! ### methods of texts -/
def mtId (m : MT) : String := "str." ++ mtS m
theorem mt_slot (m : MT) : Slot "str" (Str.ofString (mtS m)) (mtId m) ∧ typeOf (.builtin (mtId m)) = pure (.type "method_descriptor") := by
  cases m with
  | upper => exact ⟨PySem.F.slot_str_upper, PySem.F.type_str_upper⟩
  | lower => exact ⟨PySem.F.slot_str_lower, PySem.F.type_str_lower⟩
  | islower => exact ⟨PySem.F.slot_str_islower, PySem.F.type_str_islower⟩
  | isupper => exact ⟨PySem.F.slot_str_isupper, PySem.F.type_str_isupper⟩
  | isdigit => exact ⟨PySem.F.slot_str_isdigit, PySem.F.type_str_isdigit⟩
  | isalnum => exact ⟨PySem.F.slot_str_isalnum, PySem.F.type_str_isalnum⟩
  | split => exact ⟨PySem.F.slot_str_split, PySem.F.type_str_split⟩
  | join => exact ⟨PySem.F.slot_str_join, PySem.F.type_str_join⟩
  | replace => exact ⟨PySem.F.slot_str_replace, PySem.F.type_str_replace⟩
/-- what a method may be asked of -/
def noCall : Expr → Bool
  | .Call _ _ _ _ => false
  | _ => true
theorem base_of {e : Expr} (h : noCall e = true) (name : Str) (env : PySem.Env) : attributeBase e name env (eval e env) = eval e env := by
  cases e <;> first | rfl | exact absurd (show false = true from h) Bool.false_ne_true
abbrev wMt (m : MT) (wa : WE) (ws : Env → (List Od → Env → Prop) → XKn → Prop) : WE := fun ρ Φ Ψ => wa ρ (fun d ρ1 => isStrD d = true ∧ ws ρ1 (fun os ρ' => odsP ρ' os fun ds => mtP m d ds fun d' => Φ d' ρ') Ψ) Ψ
theorem isStr_of {d : D} (h : isStrD d = true) : ∃ s, d = .str s := by
  cases d <;> first | exact ⟨_, rfl⟩ | exact absurd (show false = true from h) Bool.false_ne_true
theorem r_mt0 {m : MT} {apos : Pos} (hb : noCall a = true) (hl : (apos.endLine == pos.line) = true) (ha : EvE xad X W a wa) :
    EvE xad X W (.Call (.Attribute a (Str.ofString (mtS m)) apos) [] [] pos) (wMt m wa (fun ρ Φ _ => Φ [] ρ)) := by
  intro F σ H ρ fp Φ Ψ Q k w nq xq
  obtain ⟨h1, h2⟩ := mt_slot m
  refine teW_of (pe_m0 (r := fun x vs H Q => Mtn X (mtId m) x vs H Q) h1 h2 (fun pins s σ H x xs v us Q I r1 r2 h => h pins s σ v us I r1 r2) pe_w (base_of hb _ _) hl) ?_
  refine ha F σ H ρ fp _ Ψ _ k w (fun d ρ1 v F1 H1 fp1 s1 k1 r1 w1 => ?_) xq
  obtain ⟨s, es⟩ := isStr_of w1.1
  refine ⟨⟨St s, by subst es; exact r1⟩, ?_⟩
  exact mtP_ok (P := fun d' => Φ d' ρ1) w1.2 r1 (vs := []) rfl k1.ex ((nq.step s1).kn k1 fun d h => h)
theorem r_mt1 {m : MT} {apos : Pos} (hb : noCall a = true) (hl : (apos.endLine == pos.line) = true) (hp : plainE b = true) {wo : Env → OK_ → XKn → Prop} (ha : EvE xad X W a wa) (hbo : EvO xad X W b wo) :
    EvE xad X W (.Call (.Attribute a (Str.ofString (mtS m)) apos) [b] [] pos) (wMt m wa (fun ρ Φ Ψ => wo ρ (fun d ρ' => Φ [d] ρ') Ψ)) := by
  intro F σ H ρ fp Φ Ψ Q k w nq xq
  obtain ⟨h1, h2⟩ := mt_slot m
  refine teW_of (pe_m1 (r := fun x vs H Q => Mtn X (mtId m) x vs H Q) h1 h2 (fun pins s σ H x xs v us Q I r1 r2 h => h pins s σ v us I r1 r2) pe_w pe_w (star_of hp _ _) (base_of hb _ _) hl) ?_
  refine ha F σ H ρ fp _ Ψ _ k w (fun d ρ1 v F1 H1 fp1 s1 k1 r1 w1 => ?_) xq
  obtain ⟨s, es⟩ := isStr_of w1.1
  refine ⟨⟨St s, by subst es; exact r1⟩, ?_⟩
  refine hbo F1 σ H1 ρ1 fp1 _ Ψ _ k1 w1.2 (fun o ρ2 u F2 H2 fp2 s2 k2 r2 w2 => ?_) (xq.step s1)
  obtain ⟨d2, w3, q⟩ := r2.get k2 w2
  exact mtP_ok (ds := [d2]) (P := fun d' => Φ d' ρ2) w3 (r1.mono s2.exF) ⟨u, [], rfl, q, rfl⟩ k2.ex ((nq.step (s1.trans s2)).kn k2 fun d h => h)
end
end Ts
set_option Elab.async false
set_option linter.all false
set_option maxRecDepth 100000
set_option maxHeartbeats 400000
/-! Ts, tenth part: targets, what is walked, comprehensions. -/
namespace Ts
open PySem PySem.Spec PyProof.Rows L2

/-! ### targets -/
def tgW (X : Cx) (tg : Expr) : TG := fun v σ H Q => ∀ pins s u, Inv X pins σ H s → RelV v u → wpAny (model X.prog X.w) X.A (assign tg X.env u) (fun _ s' => ∃ σ' H', Inv X pins σ' H' s' ∧ Q σ' H') X.xe s
theorem pg_w {X : Cx} {tg : Expr} : PG X tg (tgW X tg) := ⟨fun pins s σ H v u Q I r h => h pins s u I r⟩
theorem tgW_of {X : Cx} {tg : Expr} {t : TG} (h : PG X tg t) {v : V} {σ : L2.St} {H : Hp} {Q : L2.St → Hp → Prop} (q : t v σ H Q) : tgW X tg v σ H Q := fun pins s u I r => h.run pins s σ H v u Q I r q
def tgSlots : Tg → List Nat
  | .x i => [i]
  | .xs is => is
def EvG (X : Cx) (tg : Expr) (t : Tg) : Prop := ∀ F σ H ρ fp d v P Q, Ok X.K F H σ ρ fp → Rep X.K F d v → tgP t d ρ P →
  (∀ σ' ρ' fp', Stp F H fp F H fp' → Ok X.K F H σ' ρ' fp' → σ'.length = σ.length → (∀ j, j ∉ tgSlots t → σ'[j]? = σ[j]? ∧ ρ'[j]? = ρ[j]?) → P ρ' → Q σ' H) → tgW X tg v σ H Q
/-- a name that may be stored -/
structure NmS (X : Cx) (x : Str) : Prop where
  loc : Loc X.env.scope x
  fn : X.fn x = true ∨ X.env.scope.names.lookup x = some .local
def gNames : List Nat → TGs
  | [] => gNil
  | i :: is => gCons (gName i) (gNames is)
section
variable {X : Cx} {T : Tb}
theorem g_name (hN : X.N = T.N) (nd : T.N.Nodup) {i : Nat} {x : Str} {pos : Pos} (hi : T.N[i]? = some x) (hx : NmS X x) : EvG X (.Name x pos) (.x i) := by
  intro F σ H ρ fp d v P Q k r w nq
  refine tgW_of (pg_name (i := i) (by rw [hN]; exact nd) (by rw [hN]; exact hi) hx.loc hx.fn) ?_
  refine nq _ _ _ Stp.setVal (k.setVal r) (by simp) (fun j hj => ?_) w
  have hne : i ≠ j := fun z => hj (by simp [tgSlots, z])
  exact ⟨List.getElem?_set_ne hne, List.getElem?_set_ne hne⟩
/-- names in a row -/
inductive Nms (X : Cx) (N : List Str) : List Expr → List Nat → Prop where
  | nil : Nms X N [] []
  | cons {x : Str} {pos : Pos} {i : Nat} {es : List Expr} {is : List Nat} : N[i]? = some x → NmS X x → Nms X N es is → Nms X N (.Name x pos :: es) (i :: is)
theorem pgs_names (hN : X.N = T.N) (nd : T.N.Nodup) : ∀ {es : List Expr} {is : List Nat}, Nms X T.N es is → PGs X es (gNames is)
  | _, _, .nil => pgs_nil
  | _, _, .cons h1 h2 h3 => pgs_cons (pg_name (by rw [hN]; exact nd) (by rw [hN]; exact h1) h2.loc h2.fn) (pgs_names hN nd h3)
theorem names_len {N : List Str} {env : PySem.Env} : ∀ {es : List Expr} {is : List Nat}, Nms X N es is → (assignEach es env).length = is.length
  | _, _, .nil => rfl
  | _, _, .cons _ _ h => by
    show (assignEach _ env).length + 1 = _
    rw [names_len h]; rfl
theorem names_star {N : List Str} {env : PySem.Env} : ∀ {es : List Expr} {is : List Nat}, Nms X N es is → (assignEach es env).findIdx? (·.1) = none
  | _, _, .nil => rfl
  | _, _, .cons _ _ h => by
    have ih := names_star (env := env) h
    rw [List.findIdx?_eq_none_iff] at ih ⊢
    intro z hz
    rcases List.mem_cons.mp hz with e | hz
    · subst e; rfl
    · exact ih z hz
theorem gNames_ok {K : PySem.W.Frag} {F H : Hp} : ∀ {is : List Nat} {ds : List D} {vs : List V} {σ : L2.St} {ρ ρ' : Env} {fp : Fp} {Q : L2.St → Hp → Prop}, Ok K F H σ ρ fp → RepL K F ds vs → setsT ρ is ds = some ρ' →
    (∀ σ' fp', Stp F H fp F H fp' → Ok K F H σ' ρ' fp' → σ'.length = σ.length → (∀ j, j ∉ is → σ'[j]? = σ[j]? ∧ ρ'[j]? = ρ[j]?) → Q σ' H) → gNames is vs σ H Q
  | [], [], vs, σ, ρ, ρ', fp, Q, k, r, e, nq => by
    cases e
    exact ⟨r, nq σ fp (Stp.refl F H fp) k rfl fun _ _ => ⟨rfl, rfl⟩⟩
  | i :: is, d :: ds, vs, σ, ρ, ρ', fp, Q, k, ⟨v, r', e1, h1, h2⟩, e, nq => by
    subst e1
    refine ⟨v, r', rfl, ?_⟩
    refine gNames_ok (k.setVal (i := i) h1) h2 e fun σ' fp' s' k' hl hj => nq σ' fp' (Stp.setVal.trans s') k' (by rw [hl]; simp) fun j hj' => ?_
    have hne : i ≠ j := fun z => hj' (by simp [z])
    have q := hj j fun z => hj' (List.mem_cons_of_mem _ z)
    rw [List.getElem?_set_ne hne, List.getElem?_set_ne hne] at q
    exact q
  | [], _ :: _, _, _, _, _, _, _, _, _, e, _ => by cases e
  | _ :: _, [], _, _, _, _, _, _, _, _, e, _ => by cases e
theorem setsT_len : ∀ {is : List Nat} {ds : List D} {ρ ρ' : Env}, setsT ρ is ds = some ρ' → is.length = ds.length
  | [], [], _, _, _ => rfl
  | _ :: is, _ :: ds, _, _, e => congrArg (· + 1) (setsT_len (is := is) (ds := ds) e)
  | [], _ :: _, _, _, e => by cases e
  | _ :: _, [], _, _, e => by cases e
theorem g_names (hN : X.N = T.N) (nd : T.N.Nodup) (hc : X.calm = true) {es : List Expr} {is : List Nat} {kk : Nat} {pos : Pos} (h : Nms X T.N es is) : EvG X (.Tuple es kk pos) (.xs is) := by
  intro F σ H ρ fp d v P Q k r w nq
  refine tgW_of (pg_tup hc (pgs_names hN nd h) (names_len h) (names_star h)) ?_
  cases d with
  | tup ds =>
    obtain ⟨a, vs, e, q, rl⟩ := r
    obtain ⟨ρ', es', w2⟩ := w
    exact ⟨a, vs, e, ex_t k.ex q, by rw [rl.len, setsT_len es'], gNames_ok k rl es' fun σ' fp' s' k' hl hj => nq σ' ρ' fp' s' k' hl hj w2⟩
  | _ => exact False.elim w
end

/-! ### what is walked -/
def tiW (X : Cx) (tg iter : Expr) : TI := fun σ H R => ∀ pins s, Inv X pins σ H s → wpAny (model X.prog X.w) X.A (eval iter X.env) (fun v s1 => wpAny (model X.prog X.w) X.A (pyIter v) (PIE X pins σ tg R) X.xe s1) X.xe s
theorem pi_w {X : Cx} {tg iter : Expr} : PI X tg iter (tiW X tg iter) := ⟨fun pins s σ H R I h => h pins s I⟩
theorem tiW_of {X : Cx} {tg iter : Expr} {t : TI} (h : PI X tg iter t) {σ : L2.St} {H : Hp} {R : L2.It → Hp → Prop} (q : t σ H R) : tiW X tg iter σ H R := fun pins s I => h.run pins s σ H R I q
/-- J walks ds, while F stands -/
structure JL (K : PySem.W.Frag) (J : L2.It) (F : Hp) (ds : List D) : Prop where
  go : ∀ i H, Ex F H → i < ds.length → J.go i H
  stop : ∀ H, Ex F H → J.stop ds.length H
  yld : ∀ i H x H', Ex F H → i < ds.length → J.yld i H x H' → ∃ d, ds[i]? = some d ∧ ∀ F1, Ex F F1 → Ex F1 H → ∃ F2, Ext F1 H F2 H' ∧ Rep K F2 d x
def EvI (xad : Nat → Addr) (X : Cx) (W : WX) (tg iter : Expr) (w : Env → (List D → Env → Prop) → XKn → Prop) : Prop := ∀ F σ H ρ fp Φ Ψ (R : L2.It → Hp → Prop), Ok X.K F H σ ρ fp → w ρ Φ Ψ →
  (∀ ds ρ' J F' H' fp', Stp F H fp F' H' fp' → Ok X.K F' H' σ ρ' fp' → JL X.K J F' ds → Φ ds ρ' → R J H') → XCt xad X.K F H σ fp Ψ W → tiW X tg iter σ H R
section
variable {K : PySem.W.Frag} {F : Hp}
theorem jl_list {a : Addr} {vs : List V} {ds : List D} (h : SqL K F a vs) (r : RepL K F ds vs) : JL K (Itl K a) F ds where
  go := fun i H e hi => by
    have hv : i < vs.length := by rw [r.len]; exact hi
    exact ⟨vs, vs[i], ex_l e h, by simp [hv]⟩
  stop := fun H e => ⟨vs, ex_l e h, by rw [r.len]; exact Nat.le_refl _⟩
  yld := fun i H x H' e hi y => by
    obtain ⟨y1, y2⟩ := y
    subst y1
    obtain ⟨d, h1, h2⟩ := r.get' (y2 vs (ex_l e h))
    exact ⟨d, h1, fun F1 e1 e2 => ⟨F1, Ext.refl e2, h2.mono e1⟩⟩
theorem jl_tup {a : Addr} {vs : List V} {ds : List D} (h : SqT K F a vs) (r : RepL K F ds vs) : JL K (Itt K a) F ds where
  go := fun i H e hi => by
    have hv : i < vs.length := by rw [r.len]; exact hi
    exact ⟨vs, vs[i], ex_t e h, by simp [hv]⟩
  stop := fun H e => ⟨vs, ex_t e h, by rw [r.len]; exact Nat.le_refl _⟩
  yld := fun i H x H' e hi y => by
    obtain ⟨y1, y2⟩ := y
    subst y1
    obtain ⟨d, h1, h2⟩ := r.get' (y2 vs (ex_t e h))
    exact ⟨d, h1, fun F1 e1 e2 => ⟨F1, Ext.refl e2, h2.mono e1⟩⟩
theorem jl_str (s : List Nat) : JL K (Its (St s)) F (s.map fun c => .str [c]) where
  go := fun i H e hi => by
    have hi : i < s.length := by simpa using hi
    show i < (St s).cps.size
    simpa [St] using hi
  stop := fun H e => by
    show (St s).cps.size ≤ _
    simp [St]
  yld := fun i H x H' e hi y => by
    obtain ⟨y1, c, y2, y3⟩ := y
    subst y1 y3
    have y2 : s[i]? = some c := by simpa [St] using y2
    exact ⟨.str [c], by rw [List.getElem?_map, y2]; rfl, fun F1 e1 e2 => ⟨F1, Ext.refl e2, rfl⟩⟩
theorem rng_get (lo hi : Int) (i : Nat) (h : i < (hi - lo).toNat) : (rngD lo hi)[i]? = some (.int (lo + (i : Nat))) := by
  unfold rngD
  rw [List.getElem?_map, List.getElem?_range h]
  rfl
theorem rng_len (lo hi : Int) : (rngD lo hi).length = (hi - lo).toNat := by unfold rngD; simp
theorem jl_rng (lo hi : Int) : JL K (Itr lo (hi - lo).toNat) F (rngD lo hi) where
  go := fun i H e h => by rw [rng_len] at h; exact h
  stop := fun H e => by rw [rng_len]; exact Nat.le_refl _
  yld := fun i H x H' e h y => by
    obtain ⟨y1, y2⟩ := y
    subst y1 y2
    rw [rng_len] at h
    exact ⟨_, rng_get lo hi i h, fun F1 e1 e2 => ⟨F1, Ext.refl e2, rfl⟩⟩
end
section
variable {xad : Nat → Addr} {X : Cx} {W : WX} {a b e : Expr} {tg : Expr} {es : List Expr} {wa wb : WE} {pos p p0 : Pos} {T : Tb} {sm : Sm}
/-- a list, a tuple or a text, by what its value is -/
theorem it_val {pins : List (Addr × Obj)} {s : Shared} {σ : L2.St} {F H : Hp} {R : L2.It → Hp → Prop} {E : Value → Shared → Prop} {d : D} {v : V} {u : Value} {ds : List D} (I : Inv X pins σ H s) (ru : RelV v u) (r : Rep X.K F d v) (ex : Ex F H)
    (hd : itemsD d = some ds) (nq : ∀ J, JL X.K J F ds → R J H) : wpAny (model X.prog X.w) X.A (pyIter u) (PIE X pins σ tg R) E s := by
  cases d with
  | lst es =>
    obtain ⟨a, vs, e, q, rl⟩ := r
    cases hd
    subst e
    cases ru
    obtain ⟨its, rv, pl, _⟩ := I.list (ex_l ex q)
    exact wpAny_pyIter_list pl.isList (pi_one (tk := s.toks) I _ (turn_list a _) ⟨_, Heap.get?_push_size _ rfl, rfl, rfl⟩ (nq _ (jl_list q rl)))
  | tup es =>
    obtain ⟨a, vs, e, q, rl⟩ := r
    cases hd
    subst e
    cases ru
    obtain ⟨its, rv, pl, _⟩ := I.tuple (ex_t ex q)
    exact wpAny_pyIter_tuple (show s.heap.IsTuple a its.toArray from pl) (pi_one (tk := s.toks) I _ (turn_tuple a _) ⟨_, Heap.get?_push_size _ rfl, rfl, rfl⟩ (nq _ (jl_tup q rl)))
  | str z =>
    cases hd
    rw [show v = .str (St z) from r] at ru
    obtain ⟨t, et⟩ := ru
    subst et
    cases ha : (St z).cps.all (· < 128)
    · exact wpAny_pyIter_wide ha (pi_one (tk := s.toks) I _ (turn_str _ (St z) t "str_iterator" (.inr rfl)) ⟨_, Heap.get?_push_size _ rfl, rfl, rfl⟩ (nq _ (jl_str z)))
    · exact wpAny_pyIter_ascii ha (pi_one (tk := s.toks) I _ (turn_str _ (St z) t "str_ascii_iterator" (.inl rfl)) ⟨_, Heap.get?_push_size _ rfl, rfl, rfl⟩ (nq _ (jl_str z)))
  | _ => cases hd
theorem i_of (ha : EvE xad X W a wa) : EvI xad X W tg a (fun ρ Φ Ψ => wa ρ (fun d ρ' => ∃ ds, itemsD d = some ds ∧ Φ ds ρ') Ψ) := by
  intro F σ H ρ fp Φ Ψ R k w nq xq pins s I
  have h := ha F σ H ρ fp _ Ψ (fun v H1 => ∃ F1 fp1 ρ1 d ds, Stp F H fp F1 H1 fp1 ∧ Ok X.K F1 H1 σ ρ1 fp1 ∧ Rep X.K F1 d v ∧ itemsD d = some ds ∧ Φ ds ρ1) k w
    (fun d ρ1 v F1 H1 fp1 s1 k1 r1 ⟨ds, e, w2⟩ => ⟨F1, fp1, ρ1, d, ds, s1, k1, r1, e, w2⟩) xq
  refine thn (h pins s I) fun u s1 ⟨v, H1, I1, ru, F1, fp1, ρ1, d, ds, q1, k1, r1, e, w2⟩ => ?_
  exact it_val I1 ru r1 k1.ex e fun J j => nq ds ρ1 J F1 H1 fp1 q1 k1 j w2
theorem i_rng1 (hg : Gl X "range") (hm : X.mg "range" = none) (hp : plainE a = true) (ha : EvE xad X W a wa) :
    EvI xad X W tg (.Call (.Name "range" p) [a] [] pos) (fun ρ Φ Ψ => wa ρ (fun d ρ' => ∃ i, d = .int i ∧ Rg i ∧ Φ (rngD 0 i) ρ') Ψ) := by
  intro F σ H ρ fp Φ Ψ R k w nq xq
  refine tiW_of (pi_range1 hg hm (pa_cons pe_w pa_nil (star_of hp _ _)) (star_of hp _ _)) (ha F σ H ρ fp _ Ψ _ k w (fun d ρ1 v F1 H1 fp1 s1 k1 r1 w1 => ?_) xq)
  obtain ⟨i, ed, ⟨h0, h1⟩, w2⟩ := w1
  subst ed
  refine ⟨i, by rw [show v = .int i from r1], by omega, by omega, nq _ ρ1 _ F1 H1 fp1 s1 k1 ?_ w2⟩
  have j := jl_rng (K := X.K) (F := F1) 0 i
  rw [Int.sub_zero] at j
  exact j
theorem i_rng2 (hg : Gl X "range") (hm : X.mg "range" = none) (hp : plainE a = true) (hp2 : plainE b = true) (ha : EvE xad X W a wa) (hb : EvE xad X W b wb) :
    EvI xad X W tg (.Call (.Name "range" p) [a, b] [] pos) (fun ρ Φ Ψ => wa ρ (fun d ρ1 => wb ρ1 (fun d' ρ' => ∃ i j, d = .int i ∧ d' = .int j ∧ Rg i ∧ Rg j ∧ Φ (rngD i j) ρ') Ψ) Ψ) := by
  intro F σ H ρ fp Φ Ψ R k w nq xq
  refine tiW_of (pi_range2 hg hm (pa_cons pe_w (pa_cons pe_w pa_nil (star_of hp2 _ _)) (star_of hp _ _)) ((star_of hp _ _).trans (by rw [star_of hp2]; rfl)) (star_of hp2 _ _)) ?_
  refine ha F σ H ρ fp _ Ψ _ k w (fun d ρ1 v F1 H1 fp1 s1 k1 r1 w1 => ?_) xq
  refine hb F1 σ H1 ρ1 fp1 _ Ψ _ k1 w1 (fun d' ρ2 v' F2 H2 fp2 s2 k2 r2 w2 => ?_) (xq.step s1)
  obtain ⟨i, j, ed, ed', ⟨h0, h1⟩, ⟨h2, h3⟩, w3⟩ := w2
  subst ed ed'
  exact ⟨i, j, by rw [show v = .int i from r1, show v' = .int j from r2], ⟨by omega, by omega, by omega, by omega⟩, nq _ ρ2 _ F2 H2 fp2 (s1.trans s2) k2 (jl_rng i j) w3⟩
end

/-! ### comprehensions -/
theorem SlOk.fp_eq {K : PySem.W.Frag} {F H F' H' : Hp} {s : Sl} {ov : Option V} {f f' : List Addr} (h : SlOk K F H s ov f) (h' : SlOk K F' H' s ov f') : f = f' := by
  cases s with
  | no => exact (show f = [] from h).trans (show f' = [] from h').symm
  | exc a => exact h.1.trans h'.1.symm
  | val d => exact h.1.trans h'.1.symm
  | lst ds =>
    obtain ⟨a, vs, e, q, _⟩ := h
    obtain ⟨a', vs', e', q', _⟩ := h'
    rw [e] at e'; cases e'
    rw [q, q']
  | dct ks ds =>
    obtain ⟨a, vs, e, q, _⟩ := h
    obtain ⟨a', vs', e', q', _⟩ := h'
    rw [e] at e'; cases e'
    rw [q, q']
  | ins c ns ds =>
    obtain ⟨a, dx, vs, e, q, _⟩ := h
    obtain ⟨a', dx', vs', e', q', _⟩ := h'
    rw [e] at e'; cases e'
    rw [q, q']
theorem wipeE_get (ρ : Env) {j : Nat} : ∀ {own : List Nat}, j ∉ own → (wipeE ρ own)[j]? = ρ[j]?
  | [], _ => rfl
  | i :: own, h => by
    have hne : i ≠ j := fun z => h (by simp [z])
    show ((wipeE ρ own).set i .no)[j]? = _
    rw [List.getElem?_set_ne hne]
    exact wipeE_get ρ fun z => h (List.mem_cons_of_mem _ z)
theorem wipeE_len (ρ : Env) : ∀ own : List Nat, (wipeE ρ own).length = ρ.length
  | [] => rfl
  | i :: own => by
    show ((wipeE ρ own).set i .no).length = _
    rw [List.length_set, wipeE_len ρ own]
theorem wipe_get (σ : L2.St) {j : Nat} : ∀ {own : List Nat}, j ∉ own → (wipe σ own)[j]? = σ[j]?
  | [], _ => rfl
  | i :: own, h => by
    have hne : i ≠ j := fun z => h (by simp [z])
    show ((wipe σ own).set i none)[j]? = _
    rw [List.getElem?_set_ne hne]
    exact wipe_get σ fun z => h (List.mem_cons_of_mem _ z)
theorem wipe_in (σ : L2.St) {j : Nat} (hj : j < σ.length) : ∀ {own : List Nat}, j ∈ own → (wipe σ own)[j]? = some none
  | i :: own, h => by
    show ((wipe σ own).set i none)[j]? = _
    by_cases z : i = j
    · subst z; rw [List.getElem?_set_self (by rw [wipe_length]; exact hj)]
    · rw [List.getElem?_set_ne z]
      exact wipe_in σ hj ((List.mem_cons.mp h).resolve_left fun y => z y.symm)
theorem wipeE_in (ρ : Env) {j : Nat} (hj : j < ρ.length) : ∀ {own : List Nat}, j ∈ own → (wipeE ρ own)[j]? = some .no
  | i :: own, h => by
    show ((wipeE ρ own).set i .no)[j]? = _
    by_cases z : i = j
    · subst z; rw [List.getElem?_set_self (by rw [wipeE_len]; exact hj)]
    · rw [List.getElem?_set_ne z]
      exact wipeE_in ρ hj ((List.mem_cons.mp h).resolve_left fun y => z y.symm)
/-- behind names that were forgotten again the same is forgotten -/
theorem wipe_eq {σ σ' : L2.St} {own : List Nat} (hl : σ'.length = σ.length) (h : ∀ j, j ∉ own → σ'[j]? = σ[j]?) : wipe σ' own = wipe σ own := by
  apply List.ext_getElem?
  intro j
  by_cases hj : j ∈ own
  · by_cases hlt : j < σ.length
    · rw [wipe_in σ' (by omega) hj, wipe_in σ hlt hj]
    · rw [List.getElem?_eq_none (by rw [wipe_length]; omega), List.getElem?_eq_none (by rw [wipe_length]; omega)]
  · rw [wipe_get σ' hj, wipe_get σ hj, h j hj]
section
variable {K : PySem.W.Frag} {F H F' H' : Hp} {σ σ' : L2.St} {ρ ρ' : Env} {fp fp' : Fp}
theorem wipeOk_fp (k : Ok K F H σ ρ fp) {own : List Nat} (w : wipeOk ρ own = true) {i : Nat} (hi : i ∈ own) : fp i = [] := by
  have q := List.all_eq_true.mp w i hi
  cases e : ρ[i]? with
  | none => exact k.out i (by simpa using e)
  | some s =>
    obtain ⟨ov, _, h⟩ := k.sl i s e
    rw [e] at q
    cases s with
    | no => exact h
    | exc a => exact h.1
    | val d => exact h.1
    | lst ds => exact absurd q (by simp)
    | dct ks ds => exact absurd q (by simp)
    | ins c ns ds => exact absurd q (by simp)
theorem Ok.wipe (k : Ok K F H σ ρ fp) {own : List Nat} (w : wipeOk ρ own = true) : Ok K F H (L2.wipe σ own) (wipeE ρ own) fp := by
  refine ⟨k.ex, by rw [wipe_length, wipeE_len, k.len], fun i s e => ?_, fun i h => k.out i (by rw [wipeE_len] at h; exact h), k.own, k.dis⟩
  by_cases hi : i ∈ own
  · have hl : i < ρ.length := by
      have := (List.getElem?_eq_some_iff.mp e).1
      rw [wipeE_len] at this
      exact this
    rw [wipeE_in ρ hl hi] at e
    cases e
    exact ⟨none, wipe_in σ (by rw [k.len]; exact hl) hi, wipeOk_fp k w hi⟩
  · rw [wipeE_get ρ hi] at e
    obtain ⟨ov, e1, e2⟩ := k.sl i s e
    exact ⟨ov, by rw [wipe_get σ hi]; exact e1, e2⟩
/-- back from the block: what the names held they hold -/
theorem Ok.unwipe (k : Ok K F H σ ρ fp) {own : List Nat} (w : wipeOk ρ own = true) (eF : Ex F F') (k' : Ok K F' H' σ' ρ' fp') (hs : ∀ j, j ∉ own → σ'[j]? = σ[j]? ∧ ρ'[j]? = ρ[j]?) : Ok K F' H' σ ρ fp := by
  have fpe : ∀ i, i ∉ own → fp i = fp' i := fun i hi => by
    obtain ⟨h1, h2⟩ := hs i hi
    cases e : ρ[i]? with
    | none =>
      have e' : ρ'[i]? = none := by rw [h2, e]
      rw [k.out i (by simpa using e), k'.out i (by simpa using e')]
    | some s =>
      obtain ⟨ov, q1, q2⟩ := k.sl i s e
      obtain ⟨ov', q1', q2'⟩ := k'.sl i s (by rw [h2, e])
      rw [h1, q1] at q1'
      cases q1'
      exact q2.fp_eq q2'
  refine ⟨k'.ex, k.len, fun i s e => ?_, k.out, fun i a h => ?_, k.dis⟩
  · by_cases hi : i ∈ own
    · obtain ⟨ov, e1, e2⟩ := k.sl i s e
      have hf := wipeOk_fp k w hi
      exact ⟨ov, e1, e2.keep eF fun a ha => by rw [hf] at ha; cases ha⟩
    · obtain ⟨h1, h2⟩ := hs i hi
      obtain ⟨ov', q1', q2'⟩ := k'.sl i s (by rw [h2, e])
      exact ⟨ov', by rw [← h1]; exact q1', by rw [fpe i hi]; exact q2'⟩
  · by_cases hi : i ∈ own
    · rw [wipeOk_fp k w hi] at h; cases h
    · rw [fpe i hi] at h; exact k'.own i a h
end
end Ts
set_option Elab.async false
set_option linter.all false
set_option maxRecDepth 100000
set_option maxHeartbeats 1000000
/-! Ts, further walks: enumerate, zip of two and of three, over lists, tuples and texts. -/
namespace Ts
open PySem PySem.Spec PyProof.Rows L2

/-- what is walked within another walk -/
inductive Sq where
  | l (a : Addr) | t (a : Addr) | s (z : Str) (tk : PySem.Tok)
def SqOk (K : PySem.W.Frag) (H : Hp) : Sq → List V → Prop
  | .l a, xs => SqL K H a xs
  | .t a, xs => SqT K H a xs
  | .s z _, xs => xs = z.cps.toList.map fun c => .str ⟨#[c]⟩
def sqIt : Sq → Addr → Nat → Heap → Prop
  | .l a, it, i, h => h.IsListIter it a i
  | .t a, it, i, h => h.IsTupleIter it a i
  | .s z t, it, i, h => h.IsStrIter it (strIterType z) z t i
def sqV : Sq → Value
  | .l a => .ref a
  | .t a => .ref a
  | .s z t => .str z t
def sqAd : Sq → List Addr
  | .l a => [a]
  | .t a => [a]
  | .s _ _ => []
def sqAt (its : List Value) : Sq → Heap → Prop
  | .l a, h => h.IsList a its.toArray
  | .t a, h => h.IsTuple a its.toArray
  | .s _ _, _ => True
def sqOb : Sq → Obj
  | .l a => { cls := .type "list_iterator", data := .fields #[.ref a, .int 0 0] }
  | .t a => { cls := .type "tuple_iterator", data := .fields #[.ref a, .int 0 0] }
  | .s z t => { cls := .type (strIterType z), data := .fields #[.str z t, .int 0 0] }
theorem Draws.weak {prog : Program} {w : World} {A : Around} {it : Addr} {fp : List Addr} {n : Nat} {P P' : Nat → Value → Prop} {St : Nat → Heap → Prop} (D : Draws prog w A it fp n P St) (h : ∀ i v, P i v → P' i v) : Draws prog w A it fp n P' St :=
  ⟨D.live, D.frame, fun i s Q E hi st hQ => D.item i s Q E hi st fun x h' tk p => hQ x h' tk (h i x p), D.done⟩
theorem sqIt_obj {src : Sq} {it : Addr} {i : Nat} {h : Heap} (q : sqIt src it i h) : ∃ o, h.get? it = some o ∧ ∀ v, o.data ≠ .cell v := by
  cases src with
  | l a => obtain ⟨o, e, _, d⟩ := q; exact ⟨o, e, fun v z => by rw [d] at z; cases z⟩
  | t a => obtain ⟨o, e, _, d⟩ := q; exact ⟨o, e, fun v z => by rw [d] at z; cases z⟩
  | s z t => obtain ⟨o, e, _, d⟩ := q; exact ⟨o, e, fun v z => by rw [d] at z; cases z⟩
theorem sqIt_keep {src : Sq} {it : Addr} {i : Nat} {h h' : Heap} (q : sqIt src it i h) (k : ∀ o, h.get? it = some o → h'.get? it = some o) : sqIt src it i h' := by
  cases src with
  | l a => obtain ⟨o, e, r⟩ := q; exact ⟨o, k o e, r⟩
  | t a => obtain ⟨o, e, r⟩ := q; exact ⟨o, k o e, r⟩
  | s z t => obtain ⟨o, e, r⟩ := q; exact ⟨o, k o e, r⟩
theorem sq_here {X : Cx} {pins : List (Addr × Obj)} {s : Shared} {σ : L2.St} {H : Hp} {src : Sq} {xs : List V} (I : Inv X pins σ H s) (q : SqOk X.K H src xs) :
    ∃ its : List Value, sqAt its src s.heap ∧ (∀ b ∈ sqAd src, b < s.heap.objs.size) ∧ Begins (sqV src) (sqOb src) (sqAt its src) ∧ ∀ (A : Around) (it : Addr), A.handled = none → it ∉ sqAd src →
      Draws X.prog X.w A it (it :: sqAd src) xs.length (fun i v => ∃ x, xs[i]? = some x ∧ RelV x v) (fun i h => sqIt src it i h ∧ sqAt its src h) := by
  cases src with
  | l a =>
    obtain ⟨its, rv, pl, _⟩ := I.list q
    refine ⟨its, pl.isList, fun b hb => by
      have e : b = a := by simpa [sqAd] using hb
      rw [e]; exact pl.lt, begins_list a _, fun A it hh hne => ?_⟩
    have hl : xs.length = its.toArray.size := by simp [rv.length]
    rw [hl]
    refine Draws.weak (Draws.list hh it a (fun z => hne (by simp [sqAd, z])) its.toArray) fun i v e => ?_
    have e' : its[i]? = some v := by simpa using e
    have hi : i < its.length := (List.getElem?_eq_some_iff.mp e').1
    have hi' : i < xs.length := by rw [rv.length]; exact hi
    obtain ⟨u, e1, r⟩ := rv.get (i := i) (x := xs[i]) (by simp [hi'])
    rw [e'] at e1; cases e1
    exact ⟨xs[i], by simp [hi'], r⟩
  | t a =>
    obtain ⟨its, rv, pl, _⟩ := I.tuple q
    refine ⟨its, pl, fun b hb => by
      have e : b = a := by simpa [sqAd] using hb
      rw [e]; exact pl.lt, begins_tuple a _, fun A it hh hne => ?_⟩
    have hl : xs.length = its.toArray.size := by simp [rv.length]
    rw [hl]
    refine Draws.weak (Draws.tuple hh it a (fun z => hne (by simp [sqAd, z])) its.toArray) fun i v e => ?_
    have e' : its[i]? = some v := by simpa using e
    have hi : i < its.length := (List.getElem?_eq_some_iff.mp e').1
    have hi' : i < xs.length := by rw [rv.length]; exact hi
    obtain ⟨u, e1, r⟩ := rv.get (i := i) (x := xs[i]) (by simp [hi'])
    rw [e'] at e1; cases e1
    exact ⟨xs[i], by simp [hi'], r⟩
  | s z t =>
    have q : xs = _ := q
    subst q
    refine ⟨[], trivial, (fun b hb => by cases hb), begins_text z t, fun A it hh hne => ?_⟩
    have hl : (z.cps.toList.map fun c => V.str ⟨#[c]⟩).length = z.cps.size := by simp
    rw [hl]
    have D := Draws.text (prog := X.prog) (w := X.w) hh it z t
    refine ⟨fun i h st => D.live i h st.1, fun i h h' st k => ⟨D.frame i h h' st.1 k, trivial⟩, fun i s Q E hi st hQ => D.item i s Q E hi st.1 fun x h' tk p st' sb => hQ x h' tk ?_ ⟨st', trivial⟩ sb, fun s Q E st hQ => D.done s Q E st.1 hQ⟩
    obtain ⟨c, u, e, ev⟩ := p
    subst ev
    exact ⟨.str ⟨#[c]⟩, by rw [List.getElem?_map, ← Array.getElem?_toList] at *; rw [e]; rfl, u, rfl⟩

/-- n new tuples, while G holds of the heap -/
def ItT (n : Nat) (G : Hp → Prop) (Y : Nat → List V → Prop) : L2.It :=
  ⟨fun i H => G H ∧ i < n, fun i H v H' => ∃ T xs, v = .ref T ∧ H T = none ∧ H' = upd H T (.tup xs) ∧ Y i xs, fun i H => G H ∧ i = n⟩
theorem turn_wt {P : Program} {w : World} {K : PySem.W.Frag} {elts : List Expr} {kk : Nat} {tpos : Pos} {I : Addr} {fp : List Addr} (tn : Nat → Heap → Prop) {n : Nat} {G : Hp → Prop} {Y : Nat → List V → Prop}
    (mem : I ∈ fp) (obj : ∀ i h, tn i h → ∀ b ∈ fp, ∃ o, h.get? b = some o ∧ ∀ v, o.data ≠ .cell v) (keep : ∀ i h h', tn i h → (∀ b ∈ fp, ∀ o, h.get? b = some o → h'.get? b = some o) → tn i h')
    (hY : ∀ i xs, Y i xs → xs.length ≤ sizeLine)
    (self : ∀ (A : Around) (i : Nat) (s : Shared) (Q : Value → Shared → Prop) (E : Value → Shared → Prop), tn i s.heap → Q (.ref I) s → wpAny (model P w) A (pyIter (.ref I)) Q E s)
    (W : ∀ (X : Cx), X.prog = P → X.w = w → X.K = K → X.calm = true → ∀ pins s σ H i, Inv X pins σ H s → G H → tn i s.heap → ∃ (fp' wr : List Addr) (Pt : Nat → Array Value → Prop) (St : Nat → Heap → Prop) (Mid : Nat → Addr → Heap → Prop),
      WalksT P w X.A I fp' wr n Pt St Mid ∧ St i s.heap ∧ (∀ b ∈ wr, b ∈ fp) ∧ (∀ j vals, Pt j vals → ∃ xs, Vals xs vals.toList ∧ Y j xs) ∧ ∀ h', St (i + 1) h' → (∀ b o, b ∉ fp → s.heap.get? b = some o → h'.get? b = some o) → tn (i + 1) h') :
    Turn P w K (.Tuple elts kk tpos) (ItT n G Y) fp I tn where
  mem := mem
  obj := obj
  keep := keep
  self := self
  item := by
    intro X hP hw hK hc i pins s σ H E Iv hf st hg
    obtain ⟨fp', wr, Pt, St, Mid, WT, hst, hsub, hPt, back⟩ := W X hP hw hK hc pins s σ H i Iv hg.1 st
    refine WT.item i s _ _ hg.2 hst fun T vals h' tk hp hT hTup hM kk' => ?_
    refine ⟨_, rfl, WT.go elts kk tpos i T { s with heap := h', toks := tk } _ _ hM fun h'' st' k'' => ?_⟩
    obtain ⟨xs, rv, y⟩ := hPt i vals hp
    have kAll : ∀ b o, b ∉ fp → s.heap.get? b = some o → h''.get? b = some o := fun b o hb q => k'' b o (fun z => hb (hsub b z)) (kk' b o (fun z => hb (hsub b z)) q)
    have hTnot : T ∉ wr := WT.apart i T h' hM
    have hT2 : IsTup h'' T vals := by
      obtain ⟨o, e, r⟩ := hTup
      exact ⟨o, k'' T o hTnot e, r⟩
    have new : ObjOk X.prog X.w (upd H T (.tup xs)) h'' T (.tup xs) := ⟨hY i xs y, vals.toList, rv, by simpa using hT2⟩
    have I1 : Inv X pins σ (upd H T (.tup xs)) { s with heap := h'', toks := tk } := Iv.turnedNew (ch := fp) kAll hf hT new
    refine ⟨.ref T, _, I1, rfl, ⟨T, xs, rfl, Iv.hok.fresh hT, rfl, y⟩, back h'' st' kAll, fun b hb => ?_⟩
    obtain ⟨o, e, _⟩ := obj i s.heap st b hb
    rw [upd_ne (Nat.ne_of_lt (Nat.lt_of_lt_of_le (Heap.lt_size e) hT))]
    exact (hf b hb).1
  done := by
    intro X hP hw hK hc i pins s σ H E Iv hf st hg
    obtain ⟨fp', wr, Pt, St, Mid, WT, hst, hsub, hPt, back⟩ := W X hP hw hK hc pins s σ H i Iv hg.1 st
    have e := hg.2
    subst e
    exact WT.done s _ _ hst fun h' tk k => ⟨rfl, Iv.turnedL (t' := tk) (ch := fp) (fun b o hb q => k b o (fun z => hb (hsub b z)) q) hf⟩

theorem turn_en {P : Program} {w : World} {K : PySem.W.Frag} {elts : List Expr} {kk : Nat} {tpos : Pos} {src : Sq} {xs : List V} (e it : Addr) (h1 : e ≠ it) (h2 : e ∉ sqAd src) (h3 : it ∉ sqAd src) :
    Turn P w K (.Tuple elts kk tpos) (ItT xs.length (fun H => SqOk K H src xs) (fun i ys => ∃ x, xs[i]? = some x ∧ ys = [.int (i : Nat), x])) [e, it] e (fun i h => (∃ old, IsEnum h e it ((i : Nat) : Int) old) ∧ sqIt src it i h) := by
  refine turn_wt _ (by simp) (fun i h st b hb => ?_) (fun i h h' st k => ?_) (fun i ys y => ?_) (fun A i s Q E st q => ?_) (fun X hP hw hK hc pins s σ H i Iv hg st => ?_)
  · obtain ⟨⟨old, he⟩, hi⟩ := st
    have e' : b = e ∨ b = it := by simpa using hb
    rcases e' with z | z
    · rw [z]; exact ⟨_, he, fun v q => nomatch q⟩
    · rw [z]; exact sqIt_obj hi
  · obtain ⟨⟨old, he⟩, hi⟩ := st
    exact ⟨⟨old, k e (by simp) _ he⟩, sqIt_keep hi (k it (by simp))⟩
  · obtain ⟨x, _, rfl⟩ := y
    show 2 ≤ sizeLine
    decide
  · obtain ⟨⟨_, he⟩, _⟩ := st
    exact wpAny_pyIter_enum he q
  · subst hP hw hK
    obtain ⟨its, ha, _, _, D⟩ := sq_here Iv hg
    obtain ⟨⟨old, he⟩, hi⟩ := st
    have D1 := D X.A.in1 it (Iv.ok.hd hc) h3
    have hef : e ∉ it :: sqAd src := fun z => (List.mem_cons.mp z).elim h1 h2
    refine ⟨_, _, _, _, _, WalksT.enumFrom 0 D1 e h1 hef (by simp), ⟨⟨old, by rw [Int.zero_add]; exact he⟩, hi, ha⟩, fun b hb => hb, fun j vals pv => ?_, fun h' st' _ => ?_⟩
    · obtain ⟨t, v, ⟨x, e1, r⟩, rfl⟩ := pv
      refine ⟨[.int (j : Nat), x], .cons ⟨t, ?_⟩ (.cons r .nil), x, e1, rfl⟩
      rw [Int.zero_add]
    · obtain ⟨⟨old', he'⟩, hi', _⟩ := st'
      rw [Int.zero_add] at he'
      exact ⟨⟨old', he'⟩, hi'⟩
theorem turn_z2 {P : Program} {w : World} {K : PySem.W.Frag} {elts : List Expr} {kk : Nat} {tpos : Pos} {s1 s2 : Sq} {xs ys : List V} {z TI TO i1 i2 : Addr} (S : ZipSep2 z TI TO i1 i2 (i1 :: sqAd s1) (i2 :: sqAd s2)) (h1 : i1 ∉ sqAd s1) (h2 : i2 ∉ sqAd s2) :
    Turn P w K (.Tuple elts kk tpos) (ItT (min xs.length ys.length) (fun H => SqOk K H s1 xs ∧ SqOk K H s2 ys) (fun i vs => ∃ x y, xs[i]? = some x ∧ ys[i]? = some y ∧ vs = [x, y])) [z, TI, TO, i1, i2] z
      (fun i h => IsZip h z TI TO .none ∧ IsTupOf2 h TI (.ref i1) (.ref i2) ∧ (∃ a1 a2, IsTupOf2 h TO a1 a2) ∧ sqIt s1 i1 i h ∧ sqIt s2 i2 i h) := by
  refine turn_wt _ (by simp) (fun i h st b hb => ?_) (fun i h h' st k => ?_) (fun i ys y => ?_) (fun A i s Q E st q => ?_) (fun X hP hw hK hc pins s σ H i Iv hg st => ?_)
  · obtain ⟨hz, hTI, ⟨a1, a2, hTO⟩, q1, q2⟩ := st
    have e' : b = z ∨ b = TI ∨ b = TO ∨ b = i1 ∨ b = i2 := by simpa using hb
    rcases e' with q | q | q | q | q
    · rw [q]; exact ⟨_, hz, fun v q => nomatch q⟩
    · rw [q]; exact ⟨_, hTI, fun v q => nomatch q⟩
    · rw [q]; exact ⟨_, hTO, fun v q => nomatch q⟩
    · rw [q]; exact sqIt_obj q1
    · rw [q]; exact sqIt_obj q2
  · obtain ⟨hz, hTI, ⟨a1, a2, hTO⟩, q1, q2⟩ := st
    exact ⟨k z (by simp) _ hz, k TI (by simp) _ hTI, ⟨a1, a2, k TO (by simp) _ hTO⟩, sqIt_keep q1 (k i1 (by simp)), sqIt_keep q2 (k i2 (by simp))⟩
  · obtain ⟨x, y, _, _, rfl⟩ := y
    show 2 ≤ sizeLine
    decide
  · exact wpAny_pyIter_zip st.1 q
  · subst hP hw hK
    obtain ⟨its, ha, _, _, D⟩ := sq_here Iv hg.1
    obtain ⟨its2, ha2, _, _, D2⟩ := sq_here Iv hg.2
    obtain ⟨hz, hTI, hTO, q1, q2⟩ := st
    refine ⟨_, _, _, _, _, WalksT.zipD2 S (D X.A.in1 i1 (Iv.ok.hd hc) h1) (D2 X.A.in1 i2 (Iv.ok.hd hc) h2), ⟨hz, hTI, hTO, ⟨q1, ha⟩, q2, ha2⟩, fun b hb => ?_, fun j vals pv => ?_, fun h' st' _ => ?_⟩
    · have e' : b = z ∨ b = TO ∨ b = i1 ∨ b = i2 := by simpa using hb
      simp
      rcases e' with q | q | q | q <;> simp [q]
    · obtain ⟨u, v, ⟨x, e1, r1⟩, ⟨y, e2, r2⟩, rfl⟩ := pv
      exact ⟨[x, y], .cons r1 (.cons r2 .nil), x, y, e1, e2, rfl⟩
    · obtain ⟨hz', hTI', hTO', q1', q2'⟩ := st'
      exact ⟨hz', hTI', hTO', q1'.1, q2'.1⟩
theorem turn_z3 {P : Program} {w : World} {K : PySem.W.Frag} {elts : List Expr} {kk : Nat} {tpos : Pos} {s1 s2 s3 : Sq} {xs ys zs : List V} {z TI TO i1 i2 i3 : Addr} (S : ZipSep3 z TI TO i1 i2 i3 (i1 :: sqAd s1) (i2 :: sqAd s2) (i3 :: sqAd s3)) (h1 : i1 ∉ sqAd s1) (h2 : i2 ∉ sqAd s2) (h3 : i3 ∉ sqAd s3) :
    Turn P w K (.Tuple elts kk tpos) (ItT (min (min xs.length ys.length) zs.length) (fun H => SqOk K H s1 xs ∧ SqOk K H s2 ys ∧ SqOk K H s3 zs) (fun i vs => ∃ x y u, xs[i]? = some x ∧ ys[i]? = some y ∧ zs[i]? = some u ∧ vs = [x, y, u])) [z, TI, TO, i1, i2, i3] z
      (fun i h => IsZip h z TI TO .none ∧ IsTupOf3 h TI (.ref i1) (.ref i2) (.ref i3) ∧ (∃ a1 a2 a3, IsTupOf3 h TO a1 a2 a3) ∧ sqIt s1 i1 i h ∧ sqIt s2 i2 i h ∧ sqIt s3 i3 i h) := by
  refine turn_wt _ (by simp) (fun i h st b hb => ?_) (fun i h h' st k => ?_) (fun i ys y => ?_) (fun A i s Q E st q => ?_) (fun X hP hw hK hc pins s σ H i Iv hg st => ?_)
  · obtain ⟨hz, hTI, ⟨a1, a2, a3, hTO⟩, q1, q2, q3⟩ := st
    have e' : b = z ∨ b = TI ∨ b = TO ∨ b = i1 ∨ b = i2 ∨ b = i3 := by simpa using hb
    rcases e' with q | q | q | q | q | q
    · rw [q]; exact ⟨_, hz, fun v q => nomatch q⟩
    · rw [q]; exact ⟨_, hTI, fun v q => nomatch q⟩
    · rw [q]; exact ⟨_, hTO, fun v q => nomatch q⟩
    · rw [q]; exact sqIt_obj q1
    · rw [q]; exact sqIt_obj q2
    · rw [q]; exact sqIt_obj q3
  · obtain ⟨hz, hTI, ⟨a1, a2, a3, hTO⟩, q1, q2, q3⟩ := st
    exact ⟨k z (by simp) _ hz, k TI (by simp) _ hTI, ⟨a1, a2, a3, k TO (by simp) _ hTO⟩, sqIt_keep q1 (k i1 (by simp)), sqIt_keep q2 (k i2 (by simp)), sqIt_keep q3 (k i3 (by simp))⟩
  · obtain ⟨x, y, u, _, _, _, rfl⟩ := y
    show 3 ≤ sizeLine
    decide
  · exact wpAny_pyIter_zip st.1 q
  · subst hP hw hK
    obtain ⟨its, ha, _, _, D⟩ := sq_here Iv hg.1
    obtain ⟨its2, ha2, _, _, D2⟩ := sq_here Iv hg.2.1
    obtain ⟨its3, ha3, _, _, D3⟩ := sq_here Iv hg.2.2
    obtain ⟨hz, hTI, hTO, q1, q2, q3⟩ := st
    refine ⟨_, _, _, _, _, WalksT.zipD3 S (D X.A.in1 i1 (Iv.ok.hd hc) h1) (D2 X.A.in1 i2 (Iv.ok.hd hc) h2) (D3 X.A.in1 i3 (Iv.ok.hd hc) h3), ⟨hz, hTI, hTO, ⟨q1, ha⟩, ⟨q2, ha2⟩, q3, ha3⟩, fun b hb => ?_, fun j vals pv => ?_, fun h' st' _ => ?_⟩
    · have e' : b = z ∨ b = TO ∨ b = i1 ∨ b = i2 ∨ b = i3 := by simpa using hb
      simp
      rcases e' with q | q | q | q | q <;> simp [q]
    · obtain ⟨u, v, t, ⟨x, e1, r1⟩, ⟨y, e2, r2⟩, ⟨y3, e3, r3⟩, rfl⟩ := pv
      exact ⟨[x, y, y3], .cons r1 (.cons r2 (.cons r3 .nil)), x, y, y3, e1, e2, e3, rfl⟩
    · obtain ⟨hz', hTI', hTO', q1', q2', q3'⟩ := st'
      exact ⟨hz', hTI', hTO', q1'.1, q2'.1, q3'.1⟩

/-! ### what these give -/
theorem enumD_len : ∀ (n : Nat) (ds : List D), (enumD n ds).length = ds.length
  | _, [] => rfl
  | n, _ :: ds => by simp [enumD, enumD_len (n + 1) ds]
theorem enumD_get : ∀ {n : Nat} {ds : List D} {i : Nat} {d : D}, ds[i]? = some d → (enumD n ds)[i]? = some (.tup [.int ((n + i : Nat) : Int), d])
  | _, [], _, _, h => by simp at h
  | n, x :: ds, 0, d, h => by
    simp at h; subst h
    simp [enumD]
  | n, x :: ds, i + 1, d, h => by
    have q := enumD_get (n := n + 1) (ds := ds) (i := i) (d := d) (by simpa using h)
    simp only [enumD, List.getElem?_cons_succ]
    rw [q]
    rw [show n + 1 + i = n + (i + 1) by omega]
theorem zip2D_len : ∀ (as bs : List D), (zip2D as bs).length = min as.length bs.length
  | [], _ => by simp [zip2D]
  | _ :: _, [] => by simp [zip2D]
  | _ :: as, _ :: bs => by simp only [zip2D, List.length_cons, zip2D_len as bs]; omega
theorem zip2D_get : ∀ {as bs : List D} {i : Nat} {a b : D}, as[i]? = some a → bs[i]? = some b → (zip2D as bs)[i]? = some (.tup [a, b])
  | [], _, _, _, _, h, _ => by simp at h
  | _ :: _, [], _, _, _, _, h => by simp at h
  | x :: as, y :: bs, 0, a, b, h, h' => by simp at h h'; subst h h'; simp [zip2D]
  | x :: as, y :: bs, i + 1, a, b, h, h' => by
    simp only [zip2D, List.getElem?_cons_succ]
    exact zip2D_get (by simpa using h) (by simpa using h')
theorem zip3D_len : ∀ (as bs cs : List D), (zip3D as bs cs).length = min (min as.length bs.length) cs.length
  | [], _, _ => by simp [zip3D]
  | _ :: _, [], _ => by simp [zip3D]
  | _ :: _, _ :: _, [] => by simp [zip3D]
  | _ :: as, _ :: bs, _ :: cs => by simp only [zip3D, List.length_cons, zip3D_len as bs cs]; omega
theorem zip3D_get : ∀ {as bs cs : List D} {i : Nat} {a b c : D}, as[i]? = some a → bs[i]? = some b → cs[i]? = some c → (zip3D as bs cs)[i]? = some (.tup [a, b, c])
  | [], _, _, _, _, _, _, h, _, _ => by simp at h
  | _ :: _, [], _, _, _, _, _, _, h, _ => by simp at h
  | _ :: _, _ :: _, [], _, _, _, _, _, _, h => by simp at h
  | x :: as, y :: bs, z :: cs, 0, a, b, c, h, h', h'' => by simp at h h' h''; subst h h' h''; simp [zip3D]
  | x :: as, y :: bs, z :: cs, i + 1, a, b, c, h, h', h'' => by
    simp only [zip3D, List.getElem?_cons_succ]
    exact zip3D_get (by simpa using h) (by simpa using h') (by simpa using h'')
theorem get_lt {α : Type} {xs : List α} {i : Nat} (h : i < xs.length) : xs[i]? = some xs[i] := by simp [h]
section
variable {K : PySem.W.Frag} {F : Hp}
theorem jl_tup_new {n : Nat} {G : Hp → Prop} {Y : Nat → List V → Prop} {es : List D} (hG : ∀ H, Ex F H → G H) (hn : es.length = n) (hy : ∀ i xs, i < n → Y i xs → ∃ ds, es[i]? = some (.tup ds) ∧ RepL K F ds xs) : JL K (ItT n G Y) F es where
  go := fun i H e hi => ⟨hG H e, by omega⟩
  stop := fun H e => ⟨hG H e, hn⟩
  yld := fun i H x H' e hi y => by
    obtain ⟨T, xs, e1, e2, e3, y⟩ := y
    subst e1 e3
    obtain ⟨ds, q1, q2⟩ := hy i xs (by omega) y
    refine ⟨_, q1, fun F1 x1 x2 => ⟨upd F1 T (.tup xs), Ext.upd x2 e2, T, xs, rfl, .of upd_same, ?_⟩⟩
    refine q2.mono (x1.trans ?_)
    exact (Ext.upd (o := .tup xs) x2 e2).exF
theorem jl_en {src : Sq} {xs : List V} {ds : List D} (q : ∀ H, Ex F H → SqOk K H src xs) (r : RepL K F ds xs) :
    JL K (ItT xs.length (fun H => SqOk K H src xs) (fun i ys => ∃ x, xs[i]? = some x ∧ ys = [.int (i : Nat), x])) F (enumD 0 ds) := by
  refine jl_tup_new q (by rw [enumD_len, r.len]) fun i ys hi y => ?_
  obtain ⟨x, e1, rfl⟩ := y
  obtain ⟨d, e2, r2⟩ := r.get' e1
  refine ⟨_, enumD_get e2, .int (i : Nat), [x], rfl, ?_, RepL.one r2⟩
  rw [Nat.zero_add]
  exact rfl
theorem jl_z2 {s1 s2 : Sq} {xs ys : List V} {as bs : List D} (q1 : ∀ H, Ex F H → SqOk K H s1 xs) (q2 : ∀ H, Ex F H → SqOk K H s2 ys) (r1 : RepL K F as xs) (r2 : RepL K F bs ys) :
    JL K (ItT (min xs.length ys.length) (fun H => SqOk K H s1 xs ∧ SqOk K H s2 ys) (fun i vs => ∃ x y, xs[i]? = some x ∧ ys[i]? = some y ∧ vs = [x, y])) F (zip2D as bs) := by
  refine jl_tup_new (fun H e => ⟨q1 H e, q2 H e⟩) (by rw [zip2D_len, r1.len, r2.len]) fun i vs hi y => ?_
  obtain ⟨x, y, e1, e2, rfl⟩ := y
  obtain ⟨a, f1, p1⟩ := r1.get' e1
  obtain ⟨b, f2, p2⟩ := r2.get' e2
  exact ⟨_, zip2D_get f1 f2, x, [y], rfl, p1, RepL.one p2⟩
theorem jl_z3 {s1 s2 s3 : Sq} {xs ys zs : List V} {as bs cs : List D} (q1 : ∀ H, Ex F H → SqOk K H s1 xs) (q2 : ∀ H, Ex F H → SqOk K H s2 ys) (q3 : ∀ H, Ex F H → SqOk K H s3 zs) (r1 : RepL K F as xs) (r2 : RepL K F bs ys) (r3 : RepL K F cs zs) :
    JL K (ItT (min (min xs.length ys.length) zs.length) (fun H => SqOk K H s1 xs ∧ SqOk K H s2 ys ∧ SqOk K H s3 zs) (fun i vs => ∃ x y u, xs[i]? = some x ∧ ys[i]? = some y ∧ zs[i]? = some u ∧ vs = [x, y, u])) F (zip3D as bs cs) := by
  refine jl_tup_new (fun H e => ⟨q1 H e, q2 H e, q3 H e⟩) (by rw [zip3D_len, r1.len, r2.len, r3.len]) fun i vs hi y => ?_
  obtain ⟨x, y, u, e1, e2, e3, rfl⟩ := y
  obtain ⟨a, f1, p1⟩ := r1.get' e1
  obtain ⟨b, f2, p2⟩ := r2.get' e2
  obtain ⟨c, f3, p3⟩ := r3.get' e3
  exact ⟨_, zip3D_get f1 f2 f3, x, [y, u], rfl, p1, y, [u], rfl, p2, RepL.one p3⟩
/-- where a value's items lie -/
theorem sq_of {d : D} {v : V} {u : Value} {ds : List D} (r : Rep K F d v) (ru : L2.RelV v u) (hd : itemsD d = some ds) : ∃ src xs, u = sqV src ∧ (∀ H, Ex F H → SqOk K H src xs) ∧ RepL K F ds xs ∧ (notTupD d = true → ∀ a, src ≠ .t a) := by
  cases d with
  | lst es =>
    obtain ⟨a, vs, e, q, rl⟩ := r
    cases hd
    subst e
    cases ru
    exact ⟨.l a, vs, rfl, fun H e => ex_l e q, rl, fun _ _ z => by cases z⟩
  | tup es =>
    obtain ⟨a, vs, e, q, rl⟩ := r
    cases hd
    subst e
    cases ru
    exact ⟨.t a, vs, rfl, fun H e => ex_t e q, rl, fun z => by cases z⟩
  | str z =>
    cases hd
    rw [show v = .str (St z) from r] at ru
    obtain ⟨t, et⟩ := ru
    subst et
    refine ⟨.s (St z) t, z.map fun c => .str ⟨#[c]⟩, rfl, fun H e => by show _ = _; rw [St_cps], ?_, fun _ _ z => by cases z⟩
    clear r
    induction z with
    | nil => rfl
    | cons c z ih => exact ⟨_, _, rfl, rfl, ih⟩
  | _ => cases hd
end
section
variable {xad : Nat → Addr} {X : Cx} {W : WX} {a b c e : Expr} {elts : List Expr} {kk : Nat} {tpos : Pos} {wa wb wc : WE} {pos p : Pos}
theorem sq_start {src : Sq} {it : Addr} {h : Heap} (e : h.get? it = some (sqOb src)) : sqIt src it 0 h := by
  cases src with
  | l a => exact ⟨_, e, rfl, rfl⟩
  | t a => exact ⟨_, e, rfl, rfl⟩
  | s z t => exact ⟨_, e, rfl, rfl⟩
theorem ad_ne {src : Sq} {N : Nat} (h : ∀ b ∈ sqAd src, b < N) (k : Nat) : (N + k : Nat) ∉ sqAd src := fun z => by
  have q : (N + k : Nat) < N := h _ z
  omega
theorem en_go {pins : List (Addr × Obj)} {s1 : Shared} {σ : L2.St} {H1 : Hp} {R : L2.It → Hp → Prop} {E : Value → Shared → Prop} {src : Sq} {xs : List V} (I1 : Inv X pins σ H1 s1) (q : SqOk X.K H1 src xs) (nt : ∀ a, src ≠ .t a)
    (hR : R (ItT xs.length (fun H => SqOk X.K H src xs) (fun i ys => ∃ x, xs[i]? = some x ∧ ys = [.int (i : Nat), x])) H1) :
    wpAny (model X.prog X.w) X.A (call (.type "enumerate") [sqV src]) (fun v s2 => wpAny (model X.prog X.w) X.A (pyIter v) (PIE X pins σ (.Tuple elts kk tpos) R) E s2) E s1 := by
  obtain ⟨its, ha, hlt, _, _⟩ := sq_here I1 q
  have fin : ∀ h', IsEnum h' (s1.heap.objs.size + 1) s1.heap.objs.size 0 .none → sqIt src s1.heap.objs.size 0 h' → (∀ b o, s1.heap.get? b = some o → h'.get? b = some o) →
      wpAny (model X.prog X.w) X.A (pyIter (.ref (s1.heap.objs.size + 1))) (PIE X pins σ (.Tuple elts kk tpos) R) E { s1 with heap := h' } := fun h' he hit hk => by
    refine wpAny_pyIter_enum he ?_
    have I2 : Inv X pins σ H1 { s1 with heap := h' } := I1.kept (t' := s1.toks) hk
    refine ⟨s1.heap.objs.size + 1, [s1.heap.objs.size + 1, s1.heap.objs.size], _, _, H1, rfl, I2, turn_en (src := src) (xs := xs) (s1.heap.objs.size + 1) s1.heap.objs.size (Nat.succ_ne_self _) (ad_ne hlt 1) (ad_ne hlt 0), ⟨⟨.none, he⟩, hit⟩, fun b hb => ?_, hR⟩
    have e' : b = s1.heap.objs.size + 1 ∨ b = s1.heap.objs.size := by simpa using hb
    have hle : s1.heap.objs.size ≤ b := by
      rcases e' with z | z
      · rw [z]; exact Nat.le_add_right _ _
      · rw [z]; exact Nat.le_refl _
    exact I1.fpOk hle (I1.hok.fresh hle)
  cases src with
  | t a => exact absurd rfl (nt a)
  | l a => exact call_enumerate_list ha fun h' he hit hsz hk => fin h' he hit hk
  | s z t => exact call_enumerate_str fun h' he hit hsz hk => fin h' he hit hk
/-- behind the evaluation of one, of two, of three values -/
def Aft (X : Cx) (F H : Hp) (σ : L2.St) (fp : Fp) (Θ : List D → Env → Prop) (vs : List V) (H1 : Hp) : Prop := ∃ F1 fp1 ρ1 ds, Stp F H fp F1 H1 fp1 ∧ Ok X.K F1 H1 σ ρ1 fp1 ∧ RepL X.K F1 ds vs ∧ Θ ds ρ1
theorem i_enum (hg : Gl X "enumerate") (hm : X.mg "enumerate" = none) (hp : plainE a = true) (ha : EvE xad X W a wa) :
    EvI xad X W (.Tuple elts kk tpos) (.Call (.Name "enumerate" p) [a] [] pos) (fun ρ Φ Ψ => wa ρ (fun d ρ' => ∃ ds, itemsD d = some ds ∧ notTupD d = true ∧ Φ (enumD 0 ds) ρ') Ψ) := by
  intro F σ H ρ fp Φ Ψ R k w nq xq pins s I
  have h : teW X a σ H (fun v H1 => Aft X F H σ fp (fun es ρ1 => ∃ d ds, es = [d] ∧ itemsD d = some ds ∧ notTupD d = true ∧ Φ (enumD 0 ds) ρ1) [v] H1) := ha F σ H ρ fp _ Ψ _ k w
    (fun d ρ1 v F1 H1 fp1 s1 k1 r1 ⟨ds, e, e', w2⟩ => ⟨F1, fp1, ρ1, [d], s1, k1, RepL.one r1, d, ds, rfl, e, e', w2⟩) xq
  refine Call_ (ld_blt I hg hm boot_enumerate (PyProof.Rows.callWith_type1 (thn ((pa_cons pe_w pa_nil (star_of hp _ _)).run pos pins s σ H (Aft X F H σ fp (fun es ρ1 => ∃ d ds, es = [d] ∧ itemsD d = some ds ∧ notTupD d = true ∧ Φ (enumD 0 ds) ρ1)) I h) fun us s1 ⟨vs, H1, I1, r1, q1⟩ => ?_) (star_of hp _ _) rfl))
  obtain ⟨F1, fp1, ρ1, es, q1, k1, r2, d, ds, ed, e, e', w2⟩ := q1
  subst ed
  obtain ⟨v, r0, ev, rv, er⟩ := r2
  have er : r0 = [] := er
  subst ev er
  cases r1 with
  | cons r rr =>
    cases rr
    obtain ⟨src, xs, eu, hq, rl, nt⟩ := sq_of rv r e
    subst eu
    exact en_go I1 (hq H1 k1.ex) (nt e') (nq _ ρ1 _ F1 H1 fp1 q1 k1 (jl_en hq rl) w2)
theorem z2_go {pins : List (Addr × Obj)} {s1 : Shared} {σ : L2.St} {H1 : Hp} {R : L2.It → Hp → Prop} {E : Value → Shared → Prop} {sa sb : Sq} {xs ys : List V} (I1 : Inv X pins σ H1 s1) (qa : SqOk X.K H1 sa xs) (qb : SqOk X.K H1 sb ys)
    (hR : R (ItT (min xs.length ys.length) (fun H => SqOk X.K H sa xs ∧ SqOk X.K H sb ys) (fun i vs => ∃ x y, xs[i]? = some x ∧ ys[i]? = some y ∧ vs = [x, y])) H1) :
    wpAny (model X.prog X.w) X.A (call (.type "zip") [sqV sa, sqV sb]) (fun v s2 => wpAny (model X.prog X.w) X.A (pyIter v) (PIE X pins σ (.Tuple elts kk tpos) R) E s2) E s1 := by
  obtain ⟨its, ha, la, Ba, _⟩ := sq_here I1 qa
  obtain ⟨its2, hb, lb, Bb, _⟩ := sq_here I1 qb
  refine zip_begins2 Ba Bb ha hb fun h' hz hTI hTO h1 h2 hsz hk => wpAny_pyIter_zip hz ?_
  have I2 : Inv X pins σ H1 { s1 with heap := h' } := I1.kept (t' := s1.toks) hk
  refine ⟨s1.heap.objs.size + 4, [s1.heap.objs.size + 4, s1.heap.objs.size + 2, s1.heap.objs.size + 3, s1.heap.objs.size, s1.heap.objs.size + 1], _, _, H1, rfl, I2, turn_z2 (zip_sep2 la lb) (ad_ne la 0) (ad_ne lb 1), ⟨hz, hTI, ⟨_, _, hTO⟩, sq_start h1, sq_start h2⟩, fun c hcm => ?_, hR⟩
  have e' : c = s1.heap.objs.size + 4 ∨ c = s1.heap.objs.size + 2 ∨ c = s1.heap.objs.size + 3 ∨ c = s1.heap.objs.size ∨ c = s1.heap.objs.size + 1 := by simpa using hcm
  have hle : s1.heap.objs.size ≤ c := by
    rcases e' with z | z | z | z | z
    · rw [z]; exact Nat.le_add_right _ _
    · rw [z]; exact Nat.le_add_right _ _
    · rw [z]; exact Nat.le_add_right _ _
    · rw [z]; exact Nat.le_refl _
    · rw [z]; exact Nat.le_add_right _ _
  exact I1.fpOk hle (I1.hok.fresh hle)
theorem z3_go {pins : List (Addr × Obj)} {s1 : Shared} {σ : L2.St} {H1 : Hp} {R : L2.It → Hp → Prop} {E : Value → Shared → Prop} {sa sb sc : Sq} {xs ys zs : List V} (I1 : Inv X pins σ H1 s1) (qa : SqOk X.K H1 sa xs) (qb : SqOk X.K H1 sb ys) (qc : SqOk X.K H1 sc zs)
    (hR : R (ItT (min (min xs.length ys.length) zs.length) (fun H => SqOk X.K H sa xs ∧ SqOk X.K H sb ys ∧ SqOk X.K H sc zs) (fun i vs => ∃ x y u, xs[i]? = some x ∧ ys[i]? = some y ∧ zs[i]? = some u ∧ vs = [x, y, u])) H1) :
    wpAny (model X.prog X.w) X.A (call (.type "zip") [sqV sa, sqV sb, sqV sc]) (fun v s2 => wpAny (model X.prog X.w) X.A (pyIter v) (PIE X pins σ (.Tuple elts kk tpos) R) E s2) E s1 := by
  obtain ⟨its, ha, la, Ba, _⟩ := sq_here I1 qa
  obtain ⟨its2, hb, lb, Bb, _⟩ := sq_here I1 qb
  obtain ⟨its3, hc, lc, Bc, _⟩ := sq_here I1 qc
  refine zip_begins3 Ba Bb Bc ha hb hc fun h' hz hTI hTO h1 h2 h3 hsz hk => wpAny_pyIter_zip hz ?_
  have I2 : Inv X pins σ H1 { s1 with heap := h' } := I1.kept (t' := s1.toks) hk
  refine ⟨s1.heap.objs.size + 5, [s1.heap.objs.size + 5, s1.heap.objs.size + 3, s1.heap.objs.size + 4, s1.heap.objs.size, s1.heap.objs.size + 1, s1.heap.objs.size + 2], _, _, H1, rfl, I2, turn_z3 (zip_sep3 la lb lc) (ad_ne la 0) (ad_ne lb 1) (ad_ne lc 2), ⟨hz, hTI, ⟨_, _, _, hTO⟩, sq_start h1, sq_start h2, sq_start h3⟩, fun c hcm => ?_, hR⟩
  have e' : c = s1.heap.objs.size + 5 ∨ c = s1.heap.objs.size + 3 ∨ c = s1.heap.objs.size + 4 ∨ c = s1.heap.objs.size ∨ c = s1.heap.objs.size + 1 ∨ c = s1.heap.objs.size + 2 := by simpa using hcm
  have hle : s1.heap.objs.size ≤ c := by
    rcases e' with z | z | z | z | z | z
    · rw [z]; exact Nat.le_add_right _ _
    · rw [z]; exact Nat.le_add_right _ _
    · rw [z]; exact Nat.le_add_right _ _
    · rw [z]; exact Nat.le_refl _
    · rw [z]; exact Nat.le_add_right _ _
    · rw [z]; exact Nat.le_add_right _ _
  exact I1.fpOk hle (I1.hok.fresh hle)
theorem i_zip2 (hg : Gl X "zip") (hm : X.mg "zip" = none) (hp : plainE a = true) (hp2 : plainE b = true) (ha : EvE xad X W a wa) (hb : EvE xad X W b wb) :
    EvI xad X W (.Tuple elts kk tpos) (.Call (.Name "zip" p) [a, b] [] pos) (fun ρ Φ Ψ => wa ρ (fun d ρ1 => wb ρ1 (fun d' ρ' => ∃ x y, itemsD d = some x ∧ itemsD d' = some y ∧ Φ (zip2D x y) ρ') Ψ) Ψ) := by
  intro F σ H ρ fp Φ Ψ R k w nq xq pins s I
  have h : teW X a σ H (fun v H1 => teW X b σ H1 fun u H2 => Aft X F H σ fp (fun es ρ1 => ∃ d d' x y, es = [d, d'] ∧ itemsD d = some x ∧ itemsD d' = some y ∧ Φ (zip2D x y) ρ1) [v, u] H2) := ha F σ H ρ fp _ Ψ _ k w
    (fun d ρ1 v F1 H1 fp1 s1 k1 r1 w1 => hb F1 σ H1 ρ1 fp1 _ Ψ _ k1 w1 (fun d' ρ2 u F2 H2 fp2 s2 k2 r2 ⟨x, y, e, e', w2⟩ => ⟨F2, fp2, ρ2, [d, d'], s1.trans s2, k2, ⟨v, [u], rfl, r1.mono s2.exF, RepL.one r2⟩, d, d', x, y, rfl, e, e', w2⟩) (xq.step s1)) xq
  have hst : starEach [a, b] X.env = (false, eval a X.env) :: starEach [b] X.env := star_of hp _ _
  have hst2 : starEach [b] X.env = [(false, eval b X.env)] := star_of hp2 _ _
  refine Call_ (ld_blt I hg hm PyProof.Rows.boot_zip (PyProof.Rows.callWith_type1 (thn ((pa_cons pe_w (pa_cons pe_w pa_nil hst2) hst).run pos pins s σ H (Aft X F H σ fp (fun es ρ1 => ∃ d d' x y, es = [d, d'] ∧ itemsD d = some x ∧ itemsD d' = some y ∧ Φ (zip2D x y) ρ1)) I h) fun us s1 ⟨vs, H1, I1, r1, q1⟩ => ?_) hst (by rw [hst2]; rfl)))
  obtain ⟨F1, fp1, ρ1, es, q1, k1, r2, d, d', x, y, ed, e, e', w2⟩ := q1
  subst ed
  obtain ⟨v, r0, ev, rv, v', r0', ev', rv', er⟩ := r2
  have er : r0' = [] := er
  subst ev ev' er
  cases r1 with
  | cons r rr =>
    cases rr with
    | cons r' rr =>
      cases rr
      obtain ⟨sa, xs, eu, hq, rl, _⟩ := sq_of rv r e
      obtain ⟨sb, ys, eu', hq', rl', _⟩ := sq_of rv' r' e'
      subst eu eu'
      exact z2_go I1 (hq H1 k1.ex) (hq' H1 k1.ex) (nq _ ρ1 _ F1 H1 fp1 q1 k1 (jl_z2 hq hq' rl rl') w2)
theorem i_zip3 (hg : Gl X "zip") (hm : X.mg "zip" = none) (hp : plainE a = true) (hp2 : plainE b = true) (hp3 : plainE c = true) (ha : EvE xad X W a wa) (hb : EvE xad X W b wb) (hc : EvE xad X W c wc) :
    EvI xad X W (.Tuple elts kk tpos) (.Call (.Name "zip" p) [a, b, c] [] pos) (fun ρ Φ Ψ => wa ρ (fun d ρ1 => wb ρ1 (fun d' ρ2 => wc ρ2 (fun d'' ρ' => ∃ x y z, itemsD d = some x ∧ itemsD d' = some y ∧ itemsD d'' = some z ∧ Φ (zip3D x y z) ρ') Ψ) Ψ) Ψ) := by
  intro F σ H ρ fp Φ Ψ R k w nq xq pins s I
  have h : teW X a σ H (fun v H1 => teW X b σ H1 fun u H2 => teW X c σ H2 fun t H3 => Aft X F H σ fp (fun es ρ1 => ∃ d d' d'' x y z, es = [d, d', d''] ∧ itemsD d = some x ∧ itemsD d' = some y ∧ itemsD d'' = some z ∧ Φ (zip3D x y z) ρ1) [v, u, t] H3) := ha F σ H ρ fp _ Ψ _ k w
    (fun d ρ1 v F1 H1 fp1 s1 k1 r1 w1 => hb F1 σ H1 ρ1 fp1 _ Ψ _ k1 w1 (fun d' ρ2 u F2 H2 fp2 s2 k2 r2 w2 => hc F2 σ H2 ρ2 fp2 _ Ψ _ k2 w2 (fun d'' ρ3 t F3 H3 fp3 s3 k3 r3 ⟨x, y, z, e, e', e'', w3⟩ =>
      ⟨F3, fp3, ρ3, [d, d', d''], (s1.trans s2).trans s3, k3, ⟨v, [u, t], rfl, (r1.mono s2.exF).mono s3.exF, u, [t], rfl, r2.mono s3.exF, RepL.one r3⟩, d, d', d'', x, y, z, rfl, e, e', e'', w3⟩) ((xq.step s1).step s2)) (xq.step s1)) xq
  have hst : starEach [a, b, c] X.env = (false, eval a X.env) :: starEach [b, c] X.env := star_of hp _ _
  have hst2 : starEach [b, c] X.env = (false, eval b X.env) :: starEach [c] X.env := star_of hp2 _ _
  have hst3 : starEach [c] X.env = [(false, eval c X.env)] := star_of hp3 _ _
  refine Call_ (ld_blt I hg hm PyProof.Rows.boot_zip (PyProof.Rows.callWith_type1 (thn ((pa_cons pe_w (pa_cons pe_w (pa_cons pe_w pa_nil hst3) hst2) hst).run pos pins s σ H (Aft X F H σ fp (fun es ρ1 => ∃ d d' d'' x y z, es = [d, d', d''] ∧ itemsD d = some x ∧ itemsD d' = some y ∧ itemsD d'' = some z ∧ Φ (zip3D x y z) ρ1)) I h) fun us s1 ⟨vs, H1, I1, r1, q1⟩ => ?_) hst (by rw [hst2, hst3]; rfl)))
  obtain ⟨F1, fp1, ρ1, es, q1, k1, r2, d, d', d'', x, y, z, ed, e, e', e'', w2⟩ := q1
  subst ed
  obtain ⟨v, r0, ev, rv, v', r0', ev', rv', v'', r0'', ev'', rv'', er⟩ := r2
  have er : r0'' = [] := er
  subst ev ev' ev'' er
  cases r1 with
  | cons r rr =>
    cases rr with
    | cons r' rr =>
      cases rr with
      | cons r'' rr =>
        cases rr
        obtain ⟨sa, xs, eu, hq, rl, _⟩ := sq_of rv r e
        obtain ⟨sb, ys, eu', hq', rl', _⟩ := sq_of rv' r' e'
        obtain ⟨sc, zs, eu'', hq'', rl'', _⟩ := sq_of rv'' r'' e''
        subst eu eu' eu''
        exact z3_go I1 (hq H1 k1.ex) (hq' H1 k1.ex) (hq'' H1 k1.ex) (nq _ ρ1 _ F1 H1 fp1 q1 k1 (jl_z3 hq hq' hq'' rl rl' rl'') w2)
end
end Ts
set_option Elab.async false
set_option linter.all false
set_option maxRecDepth 100000
set_option maxHeartbeats 1000000
/-! Ts, eleventh part: comprehensions. -/
namespace Ts
open PySem PySem.Spec PyProof.Rows L2
theorem Fm.snoc_skip {R : D → Option D → Prop} {d : D} (h : R d none) : ∀ {ds es : List D}, Fm R ds es → Fm R (ds ++ [d]) es
  | _, _, .nil => .skip h .nil
  | _, _, .skip q r => .skip q (Fm.snoc_skip h r)
  | _, _, .keep q r => .keep q (Fm.snoc_skip h r)
theorem Fm.snoc_keep {R : D → Option D → Prop} {d e : D} (h : R d (some e)) : ∀ {ds es : List D}, Fm R ds es → Fm R (ds ++ [d]) (es ++ [e])
  | _, _, .nil => .keep h .nil
  | _, _, .skip q r => .skip q (Fm.snoc_keep h r)
  | _, _, .keep q r => .keep q (Fm.snoc_keep h r)
theorem take_snoc {ds : List D} {i : Nat} {d : D} (h : ds[i]? = some d) : ds.take (i + 1) = ds.take i ++ [d] := by
  rw [List.take_add_one, h]
  rfl
/-- the tests of a comprehension -/
def EvF (xad : Nat → Addr) (X : Cx) (W : WX) (ifs : List Expr) (w : Env → (Bool → Env → Prop) → XKn → Prop) : Prop := ∀ F σ H ρ fp Θ Ψ (Q : Bool → Hp → Prop), Ok X.K F H σ ρ fp → w ρ Θ Ψ →
  (∀ c ρ' F' H' fp', Stp F H fp F' H' fp' → Ok X.K F' H' σ ρ' fp' → Θ c ρ' → Q c H') → XCt xad X.K F H σ fp Ψ W → ∃ t, PTs X ifs t ∧ t σ H Q
section
variable {xad : Nat → Addr} {X : Cx} {W : WX} {c : Expr} {wc : WE}
theorem f_nil : EvF xad X W [] (fun ρ Φ _ => Φ true ρ) := fun F σ H ρ fp Θ Ψ Q k w nq _ => ⟨tYes, pts_nil, nq true ρ F H fp (Stp.refl F H fp) k w⟩
theorem f_one (h : EvT xad X W c wc) : EvF xad X W [c] (fun ρ Φ Ψ => wc ρ (fun d ρ' => ∃ c, d = .bl c ∧ Φ c ρ') Ψ) :=
  fun F σ H ρ fp Θ Ψ Q k w nq xq => ⟨ttW X c, pts_one pt_w, h F σ H ρ fp Θ Ψ Q k w nq xq⟩
end
theorem Ok.updD {K : PySem.W.Frag} {F H : Hp} {σ : L2.St} {ρ : Env} {fp : Fp} {p : Addr} {o : HO} (k : Ok K F H σ ρ fp) (hF : F p = none) (hp : ∀ i, p ∉ fp i) : Ok K F (upd H p o) σ ρ fp := by
  refine ⟨fun b u h => ?_, k.len, fun i s e => ?_, k.out, fun i b h => ⟨(k.own i b h).1, ?_⟩, k.dis⟩
  · rw [upd_ne fun z => by rw [z, hF] at h; cases h]; exact k.ex b u h
  · obtain ⟨ov, e1, e2⟩ := k.sl i s e
    refine ⟨ov, e1, e2.keep (Ex.refl F) fun b hb u hu => ?_⟩
    rw [upd_ne (fun (z : b = p) => hp i (by rw [← z]; exact hb))]; exact hu
  · rw [upd_ne (fun (z : b = p) => hp i (by rw [← z]; exact h))]; exact (k.own i b h).2
/-- a new list, known from now on -/
theorem frz_new {K : PySem.W.Frag} {F H F' H' : Hp} {σ : L2.St} {ρ' : Env} {fp fp' : Fp} {Φ : EK} {Q : VK} {es : List D} {p : Addr} {vs : List V} (nq : NCt K F H σ fp Φ Q) (s : Stp F H fp F' H' fp') (k : Ok K F' H' σ ρ' fp') (hF : F' p = none) (hH : H' p = some (.lst vs)) (hp : ∀ i, p ∉ fp' i)
    (r : RepL K F' es vs) (w : Φ (.lst es) ρ') (hn : H p = none) : Q (.ref p) H' := by
  have eF : Ex F' (upd F' p (.lst vs)) := Ex.upd hF
  refine nq (.lst es) ρ' (.ref p) (upd F' p (.lst vs)) H' fp' ⟨s.exF.trans eF, s.frm, fun b h f n => ?_, s.own, s.thr⟩ ⟨fun b u h => ?_, k.len, fun i t e => ?_, k.out, fun i b h => ⟨?_, (k.own i b h).2⟩, k.dis⟩ ⟨p, vs, rfl, .of upd_same, r.mono eF⟩ w
  · rw [upd_ne (fun (z : b = p) => h (by rw [z]; exact hn))]; exact s.new b h f n
  · by_cases z : b = p
    · subst z; rw [upd_same] at h; rw [← h]; exact hH
    · rw [upd_ne z] at h; exact k.ex b u h
  · obtain ⟨ov, e1, e2⟩ := k.sl i t e
    exact ⟨ov, e1, e2.keep eF fun b _ u hu => hu⟩
  · rw [upd_ne (fun (z : b = p) => hp i (by rw [← z]; exact h))]; exact (k.own i b h).1
/-- a new list is a value -/
theorem EvN.e {xad : Nat → Addr} {X : Cx} {W : WX} {e : Expr} {w : WE} (h : EvN xad X W e w) (hl : ∀ ρ Φ Ψ, w ρ Φ Ψ → w ρ (fun d ρ' => ∃ ds, d = .lst ds ∧ Φ (.lst ds) ρ') Ψ) : EvE xad X W e w :=
  fun F σ H ρ fp Φ Ψ Q k w nq xq => h F σ H ρ fp (fun ds ρ' => Φ (.lst ds) ρ') Ψ Q k (hl _ _ _ w) (fun ds ρ' p vs F' H' fp' s k' hn hF hH hp r w2 => frz_new nq s k' hF hH hp r w2 hn) xq

abbrev wLc (wi : Env → (List D → Env → Prop) → XKn → Prop) (own : List Nat) (tg : Tg) (wf : Env → (Bool → Env → Prop) → XKn → Prop) (we : WE) : WE := fun ρ Φ Ψ => wi ρ (fun ds ρ1 => ds.length ≤ line ∧ wipeOk ρ1 own = true ∧ ∃ R : D → Option D → Prop, (∀ d ∈ ds, tgP tg d (wipeE ρ1 own) fun ρ2 =>
        wf ρ2 (fun k ρ3 => ρ3 = ρ2 ∧ if k = true then we ρ3 (fun d' ρ4 => ρ4 = ρ3 ∧ R d (some d')) (fun _ _ => False) else R d none) (fun _ _ => False)) ∧
      ∀ es, Fm R ds es → Φ (.lst es) ρ1) Ψ
abbrev W0 : WX := fun _ _ _ _ => False
section
variable {xad : Nat → Addr} {X : Cx} {W : WX} {elt tg iter : Expr} {ifs : List Expr} {scope : Scope} {own : List (Str × Nat)} {t : Tg} {pos : Pos}
  {wi : Env → (List D → Env → Prop) → XKn → Prop} {wf : Env → (Bool → Env → Prop) → XKn → Prop} {we : WE}
def gA (X : Cx) (scope : Scope) (tg : Expr) : TG := fun v σ H Q => ∀ s H0 C cl fp, tgW (X.blk s H0 scope (compEnvC scope cl C X.env) fp) tg v σ H Q
def fA (X : Cx) (scope : Scope) (ifs : List Expr) : TT := fun σ H Q => ∀ s H0 C cl fp, ∃ t, PTs (X.blk s H0 scope (compEnvC scope cl C X.env) fp) ifs t ∧ t σ H Q
def eA (X : Cx) (scope : Scope) (e : Expr) : TE := fun σ H Q => ∀ s H0 C cl fp, teW (X.blk s H0 scope (compEnvC scope cl C X.env) fp) e σ H Q
theorem lc_read (hi : EvI xad X W tg iter wi) (hg : ∀ s H C cl fp, EvG (X.blk s H scope (compEnvC scope cl C X.env) fp) tg t) (hf : ∀ s H C cl fp, EvF xad (X.blk s H scope (compEnvC scope cl C X.env) fp) W0 ifs wf)
    (he : ∀ s H C cl fp, EvE xad (X.blk s H scope (compEnvC scope cl C X.env) fp) W0 elt we) (hs : ∀ i ∈ tgSlots t, i ∈ own.map (·.2))
    {F H : Hp} {σ : L2.St} {ρ : Env} {fp : Fp} {Φ : EK} {Ψ : XKn} {Q : VK} (k : Ok X.K F H σ ρ fp) (w : wLc wi (own.map (·.2)) t wf we ρ Φ Ψ)
    (nq : ∀ es ρ' p vs F' H' fp', Stp F H fp F' H' fp' → Ok X.K F' H' σ ρ' fp' → H p = none → F' p = none → H' p = some (.lst vs) → (∀ i, p ∉ fp' i) → RepL X.K F' es vs → Φ (.lst es) ρ' → Q (.ref p) H')
    (xq : XCt xad X.K F H σ fp Ψ W) : tLc (tiW X tg iter) (gA X scope tg) (fA X scope ifs) (eA X scope elt) (own.map (·.2)) σ H Q := by
  refine hi F σ H ρ fp _ Ψ _ k w (fun ds ρ1 J F1 H1 fp1 s1 k1 j w1 => ?_) xq
  obtain ⟨wl, wo, R, hel, hfin⟩ := w1
  intro D hD
  have hDf : ∀ i, D ∉ fp1 i := fun i z => (k1.own i D z).2 hD
  refine ⟨fun i m Hc => m = ds.length - i ∧ i ≤ ds.length ∧ ∃ F' es vs, Stp F1 H1 fp1 F' Hc fp1 ∧ Ok X.K F' Hc σ ρ1 fp1 ∧ F' D = none ∧ Hc D = some (.lst vs) ∧ RepL X.K F' es vs ∧ Fm R (ds.take i) es ∧ es.length ≤ i, ⟨ds.length, rfl, Nat.zero_le _, ?_⟩, ?_⟩
  · obtain ⟨n1, n2, n3, n4, n5⟩ := new_lst (vs := []) k1 hD
    exact ⟨F1, [], [], n1, n2, n3, n4, rfl, .nil, Nat.le_refl _⟩
  · rintro i m Hc ⟨rfl, hle, F', es, vs, st, k', fD, hDl, rl, fm, hes⟩
    by_cases hlt : i < ds.length
    · refine .inr ⟨j.go i Hc (st.exF.trans k'.ex) hlt, _, fun H' p' => ⟨ds.length - (i + 1), by omega, rfl, hlt, p'⟩, fun x H' y => ?_⟩
      obtain ⟨d, hd, hr⟩ := j.yld i Hc x H' (st.exF.trans k'.ex) hlt y
      obtain ⟨F2, e2, r2⟩ := hr F' st.exF k'.ex
      intro s0 H0 C0 cl0 fp0
      have kx := k'.ext e2
      have kw := kx.wipe wo
      have DH' : H' D = some (.lst vs) := e2.exH D _ hDl
      have DF2 : F2 D = none := e2.new D (by rw [hDl]; simp) fD
      refine hg s0 H0 C0 cl0 fp0 F2 _ H' _ fp1 d x _ _ kw r2 (hel d (List.mem_of_getElem? hd)) fun σ2 ρ2 fp2 s2 k2 hl hj w2 => ⟨wipe_eq (by rw [hl, wipe_length]) fun q hq => ?_, ?_⟩
      · rw [(hj q fun z => hq (hs q z)).1, wipe_get σ hq]
      intro s01 H01 C01 cl01 fp01
      refine hf s01 H01 C01 cl01 fp01 F2 σ2 H' ρ2 fp2 _ _ _ k2 w2 (fun c ρ3 F3 H3 fp3 s3 k3 w3 => ?_) (fun _ _ _ _ _ _ _ z => z.elim)
      obtain ⟨e3, w3⟩ := w3
      subst e3
      have same : ∀ q, q ∉ own.map (·.2) → σ2[q]? = σ[q]? ∧ ρ3[q]? = ρ1[q]? := fun q hq => by
        obtain ⟨z1, z2⟩ := hj q fun z => hq (hs q z)
        rw [z1, z2, wipe_get σ hq, wipeE_get ρ1 hq]
        exact ⟨rfl, rfl⟩
      cases c with
      | false =>
        have S3 : Stp F2 H' fp1 F3 H3 fp3 := s2.trans s3
        have K3 := kx.unwipe wo S3.exF k3 same
        have D3 : H3 D = some (.lst vs) := S3.frm D _ DH' hDf
        have T : Stp F1 H1 fp1 F3 H3 fp3 := st.trans (e2.stp.trans S3)
        refine ⟨F3, es, vs, ⟨T.exF, T.frm, T.new, fun i b h => .inl ⟨i, h⟩, T.thr⟩, K3, S3.new D (by rw [DH']; simp) DF2 hDf, D3, rl.mono (e2.exF.trans S3.exF), ?_, by omega⟩
        rw [take_snoc hd]
        exact fm.snoc_skip w3
      | true =>
        intro s02 H02 C02 cl02 fp02
        refine he s02 H02 C02 cl02 fp02 F3 σ2 H3 ρ3 fp3 _ _ _ k3 w3 (fun d' ρ4 y F4 H4 fp4 s4 k4 r4 w4 => ?_) (fun _ _ _ _ _ _ _ z => z.elim)
        obtain ⟨e4, w4⟩ := w4
        subst e4
        have S4 : Stp F2 H' fp1 F4 H4 fp4 := s2.trans (s3.trans s4)
        have K4 := kx.unwipe wo S4.exF k4 same
        have D4 : H4 D = some (.lst vs) := S4.frm D _ DH' hDf
        have DF4 : F4 D = none := S4.new D (by rw [DH']; simp) DF2 hDf
        have T : Stp F1 H1 fp1 F4 H4 fp4 := st.trans (e2.stp.trans S4)
        have hlen : vs.length = es.length := rl.len
        refine ⟨vs, D4, by rw [line_eq]; omega, F4, es ++ [d'], vs ++ [y], ⟨T.exF, fun b u h n => ?_, T.new, fun i b h => .inl ⟨i, h⟩, fun b h => ?_⟩, K4.updD DF4 hDf, DF4, upd_same, (rl.mono (e2.exF.trans S4.exF)).app (.one r4), ?_, by rw [List.length_append, List.length_singleton]; omega⟩
        · rw [upd_ne fun z => by rw [z, hD] at h; cases h]; exact T.frm b u h n
        · rw [upd_ne (fun (z : b = D) => h (by rw [z]; exact hD))]; exact T.thr b h
        · rw [take_snoc hd]
          exact fm.snoc_keep w4
    · have e : i = ds.length := by omega
      subst e
      rw [List.take_length] at fm
      exact .inl ⟨j.stop Hc (st.exF.trans k'.ex), nq es ρ1 D vs F' Hc fp1 (s1.trans st) k' (s1.back hD) fD hDl hDf rl (hfin es fm)⟩
/-- the rule's parts -/
theorem pg_A : ∀ s H C cl fp, PG (X.blk s H scope (compEnvC scope cl C X.env) fp) tg (gA X scope tg) := fun s H C cl fp => ⟨fun pins s' σ H' v u Q I r h => h s H C cl fp pins s' u I r⟩
theorem pf_A : ∀ s H C cl fp, PTs (X.blk s H scope (compEnvC scope cl C X.env) fp) ifs (fA X scope ifs) := fun s H C cl fp => ⟨fun pins s' σ H' Q I h => by
  obtain ⟨t, h1, h2⟩ := h s H C cl fp
  exact h1.run pins s' σ H' Q I h2⟩
theorem pe_A : ∀ s H C cl fp, PE (X.blk s H scope (compEnvC scope cl C X.env) fp) elt (eA X scope elt) := fun s H C cl fp => ⟨fun pins s' σ H' Q I h => h s H C cl fp pins s' I⟩
/-- what no set is made of -/
def noSet : Expr → Bool
  | .Set _ _ _ => false
  | _ => true
theorem folded_of {e : Expr} (h : noSet e = true) (env : PySem.Env) (x : Value) : foldedSetIterable e env x = pure x := by
  cases e <;> first | rfl | exact absurd (show false = true from h) Bool.false_ne_true
theorem n_lc (hc : X.calm = true) (hN : X.N.Nodup) (ok : BlkOk X.N X.env.scope scope own) (hb : noSet iter = true) (hi : EvI xad X W tg iter wi) (hg : ∀ s H C cl fp, EvG (X.blk s H scope (compEnvC scope cl C X.env) fp) tg t) (hf : ∀ s H C cl fp, EvF xad (X.blk s H scope (compEnvC scope cl C X.env) fp) W0 ifs wf)
    (he : ∀ s H C cl fp, EvE xad (X.blk s H scope (compEnvC scope cl C X.env) fp) W0 elt we) (hs : ∀ i ∈ tgSlots t, i ∈ own.map (·.2)) : EvN xad X W (.ListComp elt [⟨tg, iter, ifs, 0⟩] scope pos) (wLc wi (own.map (·.2)) t wf we) := by
  intro F σ H ρ fp Φ Ψ Q k w nq xq
  refine teW_of (pe_lc hc hN pi_w ok pg_A pf_A pe_A (folded_of hb _)) (lc_read hi hg hf he hs k w (fun es ρ' p vs F' H' fp' s k' hn hF hH hp r w2 => ?_) xq)
  obtain ⟨ds, ed, w3⟩ := w2
  cases ed
  exact nq es ρ' p vs F' H' fp' s k' hn hF hH hp r w3
end
section
variable {xad : Nat → Addr} {X : Cx} {W : WX} {elt tg iter : Expr} {ifs : List Expr} {scope : Scope} {own : List (Str × Nat)} {t : Tg} {pos : Pos}
  {wi : Env → (List D → Env → Prop) → XKn → Prop} {wf : Env → (Bool → Env → Prop) → XKn → Prop} {we : WE}
theorem r_lc (hc : X.calm = true) (hN : X.N.Nodup) (ok : BlkOk X.N X.env.scope scope own) (hb : noSet iter = true) (hi : EvI xad X W tg iter wi) (hg : ∀ s H C cl fp, EvG (X.blk s H scope (compEnvC scope cl C X.env) fp) tg t) (hf : ∀ s H C cl fp, EvF xad (X.blk s H scope (compEnvC scope cl C X.env) fp) W0 ifs wf)
    (he : ∀ s H C cl fp, EvE xad (X.blk s H scope (compEnvC scope cl C X.env) fp) W0 elt we) (hs : ∀ i ∈ tgSlots t, i ∈ own.map (·.2)) : EvE xad X W (.ListComp elt [⟨tg, iter, ifs, 0⟩] scope pos) (wLc wi (own.map (·.2)) t wf we) := by
  intro F σ H ρ fp Φ Ψ Q k w nq xq
  exact teW_of (pe_lc hc hN pi_w ok pg_A pf_A pe_A (folded_of hb _)) (lc_read hi hg hf he hs k w (fun es ρ' p vs F' H' fp' s k' hn hF hH hp r w2 => frz_new nq s k' hF hH hp r w2 hn) xq)
end
theorem frz_obj {K : PySem.W.Frag} {F H F' H' : Hp} {σ : L2.St} {ρ' : Env} {fp fp' : Fp} {Φ : EK} {Q : VK} {d : D} {p : Addr} {o : HO} (nq : NCt K F H σ fp Φ Q) (s : Stp F H fp F' H' fp') (k : Ok K F' H' σ ρ' fp') (hF : F' p = none) (hH : H' p = some o) (hp : ∀ i, p ∉ fp' i)
    (r : Rep K (upd F' p o) d (.ref p)) (w : Φ d ρ') (hn : H p = none) : Q (.ref p) H' := by
  have eF : Ex F' (upd F' p o) := Ex.upd hF
  refine nq d ρ' (.ref p) (upd F' p o) H' fp' ⟨s.exF.trans eF, s.frm, fun b h f n => ?_, s.own, s.thr⟩ ⟨fun b u h => ?_, k.len, fun i t e => ?_, k.out, fun i b h => ⟨?_, (k.own i b h).2⟩, k.dis⟩ r w
  · rw [upd_ne (fun (z : b = p) => h (by rw [z]; exact hn))]; exact s.new b h f n
  · by_cases z : b = p
    · subst z; rw [upd_same] at h; rw [← h]; exact hH
    · rw [upd_ne z] at h; exact k.ex b u h
  · obtain ⟨ov, e1, e2⟩ := k.sl i t e
    exact ⟨ov, e1, e2.keep eF fun b _ u hu => hu⟩
  · rw [upd_ne (fun (z : b = p) => hp i (by rw [← z]; exact h))]; exact (k.own i b h).1
theorem r_dic {xad : Nat → Addr} {X : Cx} {W : WX} {a b : Expr} {wa wb : WE} {pos : Pos} (ha : EvE xad X W a wa) (hb : EvE xad X W b wb) : EvE xad X W (.Dict [some a] [b] pos) (fun ρ Φ Ψ => wa ρ (fun dk ρ1 => wb ρ1 (fun dv ρ2 => isStrD dk = true ∧ Φ (.dct [dk] [dv]) ρ2) Ψ) Ψ) := by
  intro F σ H ρ fp Φ Ψ Q k w nq xq
  refine teW_of (pe_disp (pps_cons pe_w pe_w pps_nil) rfl rfl (by simp) (by simp)) ?_
  intro p hp
  have x := Ext.updH (o := .dK []) k.ex hp
  refine ha F σ _ ρ fp _ Ψ _ (k.ext x) w (fun dk ρ1 v F1 H1 fp1 s1 k1 r1 w1 => ?_) (xq.step x.stp)
  refine hb F1 σ H1 ρ1 fp1 _ Ψ _ k1 w1 (fun dv ρ2 u F2 H2 fp2 s2 k2 r2 w2 => ?_) ((xq.step x.stp).step s1)
  obtain ⟨s, es⟩ := isStr_of w2.1
  subst es
  have rv : v = .str (St s) := r1
  have S := s1.trans s2
  have nF : F p = none := by
    cases q : F p with
    | none => rfl
    | some u => rw [k.ex p u q] at hp; cases hp
  have hH : H2 p = some (.dK []) := S.frm p _ upd_same fun i hi => (k.own i p hi).2 hp
  have hF : F2 p = none := S.new p (by rw [upd_same]; simp) nF fun i hi => (k.own i p hi).2 hp
  have hfp : ∀ i, p ∉ fp2 i := fun i hi => by
    rcases S.own i p hi with ⟨j, z⟩ | z
    · exact (k.own j p z).2 hp
    · rw [upd_same] at z; cases z
  subst rv
  refine ⟨hH, [(.inr (St s), u)], rfl, by simp, ?_⟩
  have T := x.stp.trans S
  refine frz_obj (d := .dct [.str s] [dv]) nq (F' := F2) (fp' := fp2) ⟨T.exF, fun b o h n => ?_, T.new, T.own, fun b h => ?_⟩ (k2.updD hF hfp) hF upd_same hfp ⟨p, [(.inr (St s), u)], rfl, .inl upd_same, by simp [keyD, St_cps], RepL.one (r2.mono (Ex.upd hF))⟩ w2.2 hp
  · rw [upd_ne fun z => by rw [z, hp] at h; cases h]; exact T.frm b o h n
  · rw [upd_ne (fun (z : b = p) => h (by rw [z]; exact hp))]; exact T.thr b h
theorem r_dce {xad : Nat → Addr} {X : Cx} {W : WX} {pos : Pos} : EvE xad X W (.Dict [] [] pos) (fun ρ Φ _ => Φ (.dct [] []) ρ) := by
  intro F σ H ρ fp Φ Ψ Q k w nq xq
  refine teW_of pe_dnewK fun p hp => ?_
  have x := Ext.updH (o := .dK []) k.ex hp
  have nF : F p = none := by
    cases q : F p with
    | none => rfl
    | some u => rw [k.ex p u q] at hp; cases hp
  exact frz_obj (d := .dct [] []) nq x.stp (k.ext x) nF upd_same (fun i hi => (k.own i p hi).2 hp) ⟨p, [], rfl, .inl upd_same, rfl, rfl⟩ w hp
end Ts
set_option Elab.async false
set_option linter.all false
set_option maxRecDepth 100000
set_option maxHeartbeats 1000000
/-! Ts, twelfth part: a look at the text, and what it gives. -/
namespace Ts
open PySem PySem.Spec PyProof.Rows L2

/-! ### the makes of expressions -/
def isName : Expr → Option Str
  | .Name x _ => some x
  | _ => none
def isConst : Expr → Option Const
  | .Constant c _ _ => some c
  | _ => none
def isBin : Expr → Option (Expr × Operator × Expr)
  | .BinOp a o b _ => some (a, o, b)
  | _ => none
def isUn : Expr → Option (UnaryOp × Expr)
  | .UnaryOp o a _ => some (o, a)
  | _ => none
def isCmp : Expr → Option (Expr × List CmpOp × List Expr)
  | .Compare a os bs _ => some (a, os, bs)
  | _ => none
def isBool : Expr → Option (BoolOp × List Expr × Pos)
  | .BoolOp o es p => some (o, es, p)
  | _ => none
def isIf : Expr → Option (Expr × Expr × Expr)
  | .IfExp c a b _ => some (c, a, b)
  | _ => none
def isTup : Expr → Option (List Expr)
  | .Tuple es _ _ => some es
  | _ => none
def isLst : Expr → Option (List Expr)
  | .List es _ => some es
  | _ => none
def isSub : Expr → Option (Expr × Expr)
  | .Subscript a b _ => some (a, b)
  | _ => none
def isSlice : Expr → Option (Option Expr × Option Expr)
  | .Slice lo hi none _ => some (lo, hi)
  | _ => none
def isCall : Expr → Option (Expr × List Expr × Pos)
  | .Call f es [] p => some (f, es, p)
  | _ => none
def isAttr : Expr → Option (Expr × Str × Pos)
  | .Attribute a m p => some (a, m, p)
  | _ => none
def isLc : Expr → Option (Expr × Expr × Expr × List Expr × Scope)
  | .ListComp elt [⟨tg, iter, ifs, 0⟩] sc _ => some (elt, tg, iter, ifs, sc)
  | _ => none
theorem isName_of {e : Expr} {x : Str} (h : isName e = some x) : ∃ p, e = .Name x p := by cases e <;> first | (cases h; exact ⟨_, rfl⟩) | cases h
theorem isConst_of {e : Expr} {x : Const} (h : isConst e = some x) : ∃ j p, e = .Constant x j p := by cases e <;> first | (cases h; exact ⟨_, _, rfl⟩) | cases h
theorem isBin_of {e : Expr} {a b : Expr} {o : Operator} (h : isBin e = some (a, o, b)) : ∃ p, e = .BinOp a o b p := by cases e <;> first | (cases h; exact ⟨_, rfl⟩) | cases h
theorem isUn_of {e : Expr} {a : Expr} {o : UnaryOp} (h : isUn e = some (o, a)) : ∃ p, e = .UnaryOp o a p := by cases e <;> first | (cases h; exact ⟨_, rfl⟩) | cases h
theorem isCmp_of {e : Expr} {a : Expr} {os : List CmpOp} {bs : List Expr} (h : isCmp e = some (a, os, bs)) : ∃ p, e = .Compare a os bs p := by cases e <;> first | (cases h; exact ⟨_, rfl⟩) | cases h
theorem isBool_of {e : Expr} {o : BoolOp} {es : List Expr} {p : Pos} (h : isBool e = some (o, es, p)) : e = .BoolOp o es p := by cases e <;> first | (cases h; rfl) | cases h
theorem isIf_of {e : Expr} {c a b : Expr} (h : isIf e = some (c, a, b)) : ∃ p, e = .IfExp c a b p := by cases e <;> first | (cases h; exact ⟨_, rfl⟩) | cases h
theorem isTup_of {e : Expr} {es : List Expr} (h : isTup e = some es) : ∃ k p, e = .Tuple es k p := by cases e <;> first | (cases h; exact ⟨_, _, rfl⟩) | cases h
theorem isLst_of {e : Expr} {es : List Expr} (h : isLst e = some es) : ∃ p, e = .List es p := by cases e <;> first | (cases h; exact ⟨_, rfl⟩) | cases h
theorem isSub_of {e : Expr} {a b : Expr} (h : isSub e = some (a, b)) : ∃ p, e = .Subscript a b p := by cases e <;> first | (cases h; exact ⟨_, rfl⟩) | cases h
theorem isSlice_of {e : Expr} {a b : Option Expr} (h : isSlice e = some (a, b)) : ∃ p, e = .Slice a b none p := by
  cases e with
  | Slice lo hi st p =>
    cases st with
    | none => cases h; exact ⟨p, rfl⟩
    | some _ => cases h
  | _ => cases h
theorem isCall_of {e f : Expr} {es : List Expr} {p : Pos} (h : isCall e = some (f, es, p)) : e = .Call f es [] p := by
  cases e with
  | Call g as ks q =>
    cases ks with
    | nil => cases h; rfl
    | cons _ _ => cases h
  | _ => cases h
theorem isAttr_of {e a : Expr} {m : Str} {p : Pos} (h : isAttr e = some (a, m, p)) : e = .Attribute a m p := by cases e <;> first | (cases h; rfl) | cases h
theorem isLc_of {e elt tg iter : Expr} {ifs : List Expr} {sc : Scope} (h : isLc e = some (elt, tg, iter, ifs, sc)) : ∃ p, e = .ListComp elt [⟨tg, iter, ifs, 0⟩] sc p := by
  cases e with
  | ListComp a gs s p =>
    unfold isLc at h
    split at h
    · rename_i heq
      cases heq
      cases h
      exact ⟨_, rfl⟩
    · cases h
  | _ => cases h

/-! ### names -/
def visB (sc : Scope) (x : Str) : Bool := match sc.names.lookup x with
  | some .local => true
  | some .cell => true
  | some .free => true
  | _ => false
def locB (sc : Scope) (x : Str) : Bool := match sc.names.lookup x with
  | some .local => true
  | some .cell => true
  | _ => false
def lclB (sc : Scope) (x : Str) : Bool := match sc.names.lookup x with
  | some .local => true
  | _ => false
def glB (sc : Scope) (x : Str) : Bool := match sc.names.lookup x with
  | some .globalImplicit => true
  | _ => false
def dbgB (x : Str) : Bool := !(x == ("__debug__" : Str)) && !(x == ("__classdict__" : Str))
theorem vis_of {sc : Scope} {x : Str} (h : visB sc x = true) : Vis sc x := by
  unfold visB at h
  split at h
  · exact .inl (by assumption)
  · exact .inr (.inl (by assumption))
  · exact .inr (.inr (by assumption))
  · cases h
theorem loc_of {sc : Scope} {x : Str} (h : locB sc x = true) : Loc sc x := by
  unfold locB at h
  split at h
  · exact .inl (by assumption)
  · exact .inr (by assumption)
  · cases h
theorem lcl_of {sc : Scope} {x : Str} (h : lclB sc x = true) : sc.names.lookup x = some .local := by
  unfold lclB at h
  split at h
  · assumption
  · cases h
theorem gl_of {sc : Scope} {x : Str} (h : glB sc x = true) : sc.names.lookup x = some .globalImplicit := by
  unfold glB at h
  split at h
  · assumption
  · cases h
theorem dbg_of {x : Str} (h : dbgB x = true) : (x == ("__debug__" : Str)) = false ∧ (x == ("__classdict__" : Str)) = false := by
  unfold dbgB at h
  simp only [Bool.and_eq_true, Bool.not_eq_true'] at h
  exact h
def constB : D → Const → Bool
  | .non, .none => true
  | .bl b, .bool c => b == c
  | .int i, .int j => decide (i = j)
  | .str s, .str x => decide (x.cps.toList = s)
  | _, _ => false

/-- what may be a test -/
def tst : E → Bool
  | .ite _ _ _ => false
  | _ => true
def tstO : Oe → Bool
  | .none => true
  | .some e => tst e
def isDic : Expr → Option (Expr × Expr)
  | .Dict [some k] [v] _ => some (k, v)
  | _ => none
theorem isDic_of {e k v : Expr} (h : isDic e = some (k, v)) : ∃ p, e = .Dict [some k] [v] p := by
  cases e with
  | Dict ks vs p =>
    unfold isDic at h
    split at h
    · rename_i heq
      cases heq
      cases h
      exact ⟨_, rfl⟩
    · cases h
  | _ => cases h

def nmB (e : Expr) (P : Str → Bool) : Bool := match isName e with
  | some x => P x
  | none => false
theorem name_chk {e : Expr} {P : Str → Bool} (h : nmB e P = true) : ∃ x p, e = .Name x p ∧ P x = true := by
  unfold nmB at h
  split at h
  · rename_i x q
    obtain ⟨p, e1⟩ := isName_of q
    exact ⟨x, p, e1, h⟩
  · cases h

def isDic0 : Expr → Bool
  | .Dict [] [] _ => true
  | _ => false
theorem isDic0_of {e : Expr} (h : isDic0 e = true) : ∃ p, e = .Dict [] [] p := by
  cases e with
  | Dict ks vs p =>
    cases ks with
    | nil =>
      cases vs with
      | nil => exact ⟨p, rfl⟩
      | cons _ _ => cases h
    | cons _ _ => cases h
  | _ => cases h
/-! ### the look -/
def celB (sc : Scope) (x : Str) : Bool := match sc.names.lookup x with
  | some .cell => true
  | _ => false
theorem cel_of {sc : Scope} {x : Str} (h : celB sc x = true) : sc.names.lookup x = some .cell := by
  unfold celB at h
  split at h
  · assumption
  · cases h
def nmK (b : Bool) (sc : Scope) (x : Str) : Bool := lclB sc x || (b && celB sc x)
def chkTg (T : Tb) (b : Bool) (sc : Scope) : Tg → Expr → Bool
  | .x i, e => nmB e fun x => decide (T.N[i]? = some x) && nmK b sc x
  | .xs is, e => match isTup e with
    | some es => !T.hot && (decide (es.length = is.length) && (es.zip is).all fun p => nmB p.1 fun x => decide (T.N[p.2]? = some x) && nmK b sc x)
    | none => false
def bltB (T : Tb) (sc : Scope) (x : Str) : Bool := decide (x ∈ T.bl) && glB sc x
/-- the place of each of a block's own names -/
def ownOf (T : Tb) (own : List Nat) : List (Str × Nat) := own.map fun i => (T.N.getD i "", i)
/-- classes of errors that a text names: one, ValueError, or a tuple of them -/
def isCls (T : Tb) (sc : Scope) (cs : List Nat) (e : Expr) : Bool := match isTup e with
  | some es => decide (es.length = cs.length) && decide (es.length ≤ 100) && (es.zip cs).all fun p => nmB p.1 fun y => decide ((p.2, y) ∈ T.ex) && glB sc y && dbgB y
  | none => match cs with
    | [m] => nmB e fun y => if m = 6 then decide (y = Str.ofString "ValueError") && bltB T sc y else decide ((m, y) ∈ T.ex) && glB sc y && dbgB y
    | _ => false
mutual
def chkE (T : Tb) (sc : Scope) : E → Expr → Bool
  | .v i, e => nmB e fun x => decide (T.N[i]? = some x) && visB sc x && dbgB x
  | .o i, e => nmB e fun x => decide (T.N[i]? = some x) && visB sc x && dbgB x
  | .k d, e => match isConst e with
    | some c => constB d c
    | none => false
  | .g n, e => nmB e fun x => decide (T.cn[n]? = some x) && glB sc x && dbgB x
  | .bin p a b, e => match isBin e with
    | some (x, o, y) => decide (o = bopS p) && chkE T sc a x && chkE T sc b y
    | none => false
  | .neg a, e => match isUn e with
    | some (.USub, x) => chkE T sc a x
    | _ => false
  | .cmp p a b, e => match isCmp e with
    | some (x, [o], [y]) => decide (o = copS p) && !behindInMarks o y && chkE T sc a x && chkE T sc b y
    | _ => false
  | .cmp2 p q a b c, e => match isCmp e with
    | some (x, [o, o'], [y, z]) => decide (o = copS p) && decide (o' = copS q) && !lastMarks [o, o'] [y, z] && chkE T sc a x && chkE T sc b y && chkE T sc c z
    | _ => false
  | .and a b, e => match isBool e with
    | some (.And, x :: y :: r, p) => tst a && chkE T sc a x && tst b && (match r with
      | [] => chkE T sc b y
      | z :: r' => chkE T sc b (.BoolOp .And (y :: z :: r') p))
    | _ => false
  | .or a b, e => match isBool e with
    | some (.Or, x :: y :: r, p) => tst a && chkE T sc a x && tst b && (match r with
      | [] => chkE T sc b y
      | z :: r' => chkE T sc b (.BoolOp .Or (y :: z :: r') p))
    | _ => false
  | .not a, e => match isUn e with
    | some (.Not, x) => tst a && chkE T sc a x
    | _ => false
  | .ite c a b, e => match isIf e with
    | some (x, y, z) => tst c && chkE T sc c x && chkE T sc a y && chkE T sc b z
    | none => false
  | .tup es, e => match isTup e with
    | some xs => chkEs T sc es xs
    | none => false
  | .lst es, e => match isLst e with
    | some xs => chkEs T sc es xs
    | none => false
  | .ix a i, e => match isSub e with
    | some (x, y) => (match isSlice y with | none => true | some _ => false) && chkE T sc a x && chkE T sc i y
    | none => false
  | .sl a lo hi, e => match isSub e with
    | some (x, y) => (match isSlice y with
      | some (l, h) => chkE T sc a x && chkOe T sc lo l && chkOe T sc hi h
      | none => false)
    | none => false
  | .call n es, e => match isCall e with
    | some (f, xs, _) => !T.hot && (nmB f fun x => decide (T.fn[n]? = some x) && glB sc x && dbgB x && chkEs T sc es xs)
    | none => false
  | .bi f es, e => match isCall e with
    | some (g, xs, _) => !T.hot && (nmB g fun x => decide (x = Str.ofString (biS f)) && bltB T sc x && (match f, xs with
        | .isi t, [a, ty] => (nmB ty fun y => decide (y = Str.ofString (tyS t)) && bltB T sc y && chkEs T sc es [a])
        | .isi _, _ => false
        | _, [] => false
        | _, y :: ys => chkEs T sc es (y :: ys)))
    | none => false
  | .mt m a es, e => match isCall e with
    | some (g, xs, p) => (match isAttr g with
      | some (x, nm, q) => decide (nm = Str.ofString (mtS m)) && noCall x && (q.endLine == p.line) && chkE T sc a x && (match xs with
        | [] => chkEs T sc es []
        | [y] => chkEs T sc es [y]
        | _ => false)
      | none => false)
    | none => false
  | .lc own it tg c el, e => match isLc e with
    | some (x, t, iter, ifs, s) => !T.hot && (blkC T.N sc s (ownOf T own) && noSet iter && chkIt T sc it t iter && chkTg T false (relS s sc) tg t && decide ((tgSlots tg).all (fun i => decide (i ∈ own)) = true) && tstO c && (match ifs with
        | [] => chkOe T (relS s sc) c none
        | [y] => chkOe T (relS s sc) c (some y)
        | _ => false) && chkE T (relS s sc) el x)
    | none => false
  | .dce, e => isDic0 e
  | .ise i cs, e => match isCall e with
    | some (f, [a, b], _) => T.hot && (nmB f fun x => decide (x = Str.ofString "isinstance") && bltB T sc x && (nmB a fun y => decide (T.N[i]? = some y) && visB sc y && dbgB y && isCls T sc cs b))
    | _ => false
  | .dic a b, e => match isDic e with
    | some (x, y) => chkE T sc a x && chkE T sc b y
    | none => false
  | .lrng a, e => match isCall e with
    | some (f, [g], _) => (match isName f, isCall g with
      | some x, some (h, [y], _) => !T.hot && (nmB h fun z => decide (x = "list") && decide (z = "range") && plainE y && bltB T sc x && bltB T sc z && chkE T sc a y)
      | _, _ => false)
    | _ => false
def chkEs (T : Tb) (sc : Scope) : Es → List Expr → Bool
  | .nil, [] => true
  | .cons e es, x :: xs => plainE x && chkE T sc e x && chkEs T sc es xs
  | _, _ => false
def chkOe (T : Tb) (sc : Scope) : Oe → Option Expr → Bool
  | .none, none => true
  | .some e, some x => chkE T sc e x
  | _, _ => false
def chkIt (T : Tb) (sc : Scope) : It → Expr → Expr → Bool
  | .of a, _, e => chkE T sc a e
  | .rng1 a, _, e => match isCall e with
    | some (f, [x], _) => (nmB f fun y => decide (y = "range") && bltB T sc y && plainE x && chkE T sc a x)
    | _ => false
  | .rng2 a b, _, e => match isCall e with
    | some (f, [x, z], _) => (nmB f fun y => decide (y = "range") && bltB T sc y && plainE x && plainE z && chkE T sc a x && chkE T sc b z)
    | _ => false
  | .enum a, t, e => match isCall e with
    | some (f, [x], _) => (nmB f fun y => decide (y = "enumerate") && bltB T sc y && (isTup t).isSome && plainE x && chkE T sc a x)
    | _ => false
  | .zip2 a b, t, e => match isCall e with
    | some (f, [x, z], _) => (nmB f fun y => decide (y = "zip") && bltB T sc y && (isTup t).isSome && plainE x && plainE z && chkE T sc a x && chkE T sc b z)
    | _ => false
  | .zip3 a b c, t, e => match isCall e with
    | some (f, [x, z, u], _) => (nmB f fun y => decide (y = "zip") && bltB T sc y && (isTup t).isSome && plainE x && plainE z && plainE u && chkE T sc a x && chkE T sc b z && chkE T sc c u)
    | _ => false
end
end Ts
set_option Elab.async false
set_option linter.all false
set_option maxRecDepth 100000
set_option maxHeartbeats 1000000
/-! Ts, thirteenth part: what the look gives. -/
namespace Ts
open PySem PySem.Spec PyProof.Rows L2
theorem Gd.blk {T : Tb} {sm : Sm} {xad : Nat → Addr} {X : Cx} (g : Gd T sm xad X) (hh : T.hot = false) (s : Shared) (H : Hp) (scope : Scope) (cenv : PySem.Env) (fp : List Addr) : Gd T sm xad (X.blk s H scope cenv fp) :=
  ⟨g.N, g.nd, g.calm, g.units, fun hh n x h => let ⟨sp, e, c⟩ := g.fn hh n x h; ⟨sp, e, ⟨c.ex⟩⟩, g.cn, g.bl, g.xc, g.xr, fun z => absurd (hh.symm.trans z) (by decide)⟩
/-- an expression whose truth is its value's -/
def plainT : Expr → Bool
  | .UnaryOp .Not _ _ => false
  | .BoolOp _ _ _ => false
  | .IfExp _ _ _ _ => false
  | .Compare _ _ _ _ => false
  | _ => true
theorem truth_of {e : Expr} (h : plainT e = true) (env : PySem.Env) (whole : Sem Value) : isTrue e env whole = (do let v ← whole; standAt e.pos; holding [v] (truthy v)) := by
  cases e with
  | UnaryOp o x p => cases o <;> first | rfl | exact absurd (show false = true from h) Bool.false_ne_true
  | BoolOp _ _ _ => exact absurd (show false = true from h) Bool.false_ne_true
  | IfExp _ _ _ _ => exact absurd (show false = true from h) Bool.false_ne_true
  | Compare _ _ _ _ => exact absurd (show false = true from h) Bool.false_ne_true
  | _ => rfl
theorem plainIx_of {e : Expr} (h : isSlice e = none) : PlainIx e := by
  intro o i
  cases e with
  | Slice lo hi st p =>
    cases st with
    | none => cases h
    | some _ => rfl
  | _ => rfl
section
variable {T : Tb} {sm : Sm} {xad : Nat → Addr} {X : Cx} {W : WX} {e : Expr} {sc : Scope}
theorem k_of {d : D} {c : Const} {j : Nat} {pos : Pos} (h : constB d c = true) : EvE xad X W (.Constant c j pos) (wpE sm (.k d)) := by
  refine r_k ?_
  unfold constB at h
  split at h
  · trivial
  · simpa using h
  · simpa using h
  · rename_i s x
    show x = St s
    rw [St_of x, show x.cps.toList = s by simpa using h]
  · cases h
theorem o_of (g : Gd T sm xad X) (hs : X.env.scope = sc) (a : E) (h : EvE xad X W e (wpE sm a)) (hc : chkE T sc a e = true) : EvO xad X W e (opE a (wpE sm a)) := by
  by_cases hn : ∃ i, a = .o i
  · obtain ⟨i, ea⟩ := hn
    subst ea
    simp only [chkE] at hc
    obtain ⟨x, p, e1, hh1⟩ := name_chk hc
    subst e1
    replace hc := hh1
    simp only [Bool.and_eq_true, decide_eq_true_eq] at hc
    obtain ⟨⟨h1, h2⟩, h3⟩ := hc
    exact r_own g.N h1 (by rw [hs]; exact vis_of h2) (dbg_of h3).1 (dbg_of h3).2
  · exact h.o (fun ir hir ρ Ω Ψ q => opE_of hir q) fun i z => hn ⟨i, z⟩
theorem both (h : EvE xad X W e (wpE sm a)) (hp : plainT e = true) : EvE xad X W e (wpE sm a) ∧ (tst a = true → EvT xad X W e (wpE sm a)) ∧ ∀ op vs p, e = .BoolOp op vs p → EvW xad X W e (wpE sm a) :=
  ⟨h, fun _ => h.t (truth_of hp _), fun op vs p z => by subst z; exact absurd (show false = true from hp) Bool.false_ne_true⟩
theorem blt_of (g : Gd T sm xad X) (hs : X.env.scope = sc) {x : Str} (h : bltB T sc x = true) : Gl X x ∧ X.mg x = none := by
  unfold bltB at h
  simp only [Bool.and_eq_true, decide_eq_true_eq] at h
  exact ⟨by show X.env.scope.names.lookup x = _; rw [hs]; exact gl_of h.2, g.bl x h.1⟩
theorem tg_of {t : Tg} {b : Bool} (hb : b = true → ∀ x, X.fn x = true) (g : Gd T sm xad X) (hs : X.env.scope = sc) (h : chkTg T b sc t e = true) : EvG X e t := by
  have nm : ∀ {x : Str}, nmK b sc x = true → NmS X x := fun {x} h => by
    unfold nmK at h
    rw [Bool.or_eq_true, Bool.and_eq_true] at h
    rcases h with h | ⟨h1, h2⟩
    · have q := lcl_of h
      rw [← hs] at q
      exact ⟨.inl q, .inr q⟩
    · have q := cel_of h2
      rw [← hs] at q
      exact ⟨.inr q, .inl (hb h1 x)⟩
  cases t with
  | x i =>
    obtain ⟨x, p, e1, hh2⟩ := name_chk h
    subst e1
    replace h := hh2
    simp only [Bool.and_eq_true, decide_eq_true_eq] at h
    exact g_name g.N g.nd h.1 (nm h.2)
  | xs is =>
    simp only [chkTg] at h
    split at h
    · rename_i es q
      obtain ⟨kk, p, e1⟩ := isTup_of q
      subst e1
      rw [Bool.and_eq_true, Bool.not_eq_true'] at h
      obtain ⟨hh, h⟩ := h
      rw [Bool.and_eq_true, decide_eq_true_eq] at h
      have go : ∀ {es : List Expr} {is : List Nat}, es.length = is.length → ((es.zip is).all fun p => nmB p.1 fun x => decide (T.N[p.2]? = some x) && nmK b sc x) = true → Nms X T.N es is := by
        intro es
        induction es with
        | nil =>
          intro is hl _
          cases is with
          | nil => exact .nil
          | cons _ _ => cases hl
        | cons e es ih =>
          intro is hl ha
          cases is with
          | nil => cases hl
          | cons i is =>
            rw [List.zip_cons_cons, List.all_cons, Bool.and_eq_true] at ha
            obtain ⟨x, p, e1, h1⟩ := name_chk ha.1
            subst e1
            simp only [Bool.and_eq_true, decide_eq_true_eq] at h1
            exact .cons h1.1 (nm h1.2) (ih (by simpa using hl) ha.2)
      exact g_names g.N g.nd (g.calm hh) (go h.1 h.2)
    · cases h
end
theorem own_snd (T : Tb) (own : List Nat) : (ownOf T own).map (·.2) = own := by
  unfold ownOf
  rw [List.map_map]
  exact List.map_id own
section
variable (T : Tb) (sm : Sm) (xad : Nat → Addr)
def SndE (ir : E) : Prop := ∀ (sc : Scope) (e : Expr) (X : Cx) (W : WX), Gd T sm xad X → X.env.scope = sc → Takes X W → chkE T sc ir e = true →
    EvE xad X W e (wpE sm ir) ∧ (tst ir = true → EvT xad X W e (wpE sm ir)) ∧ ∀ op vs p, e = .BoolOp op vs p → EvW xad X W e (wpE sm ir)
def SndEs (irs : Es) : Prop := ∀ (sc : Scope) (es : List Expr) (X : Cx) (W : WX), Gd T sm xad X → X.env.scope = sc → Takes X W → chkEs T sc irs es = true →
    EvEs xad X W es (wpEs sm irs) ∧ EvOs xad X W es (wpOs sm irs) ∧ es.all plainE = true ∧ (es = [] → irs = Es.nil) ∧ (∀ a, es = [a] → plainE a = true ∧ ∃ e0, irs = .cons e0 .nil ∧ EvO xad X W a (opE e0 (wpE sm e0)))
def SndOe (ir : Oe) : Prop := ∀ (sc : Scope) (e : Option Expr) (X : Cx) (W : WX), Gd T sm xad X → X.env.scope = sc → Takes X W → chkOe T sc ir e = true →
    EvP xad X W e (wpOe sm ir) ∧ (e = none → EvF xad X W [] (wpIf sm ir)) ∧ ∀ y, e = some y → tstO ir = true → EvF xad X W [y] (wpIf sm ir)
def SndIt (ir : It) : Prop := ∀ (sc : Scope) (tg e : Expr) (X : Cx) (W : WX), Gd T sm xad X → X.env.scope = sc → Takes X W → chkIt T sc ir tg e = true →
    EvI xad X W tg e (wpIt sm ir)
end
section
variable {T : Tb} {sm : Sm} {xad : Nat → Addr}
theorem sndE_v (i : Nat)  : SndE T sm xad (.v i) := by
    intro sc e X W g hs tk h
    simp only [chkE] at h
    obtain ⟨x, p, e1, hh3⟩ := name_chk h
    subst e1
    replace h := hh3
    simp only [Bool.and_eq_true, decide_eq_true_eq] at h
    exact both (a := .v i) (r_var g.N h.1.1 (by rw [hs]; exact vis_of h.1.2) (dbg_of h.2).1 (dbg_of h.2).2) rfl
theorem sndE_o (i : Nat)  : SndE T sm xad (.o i) := by
    intro sc e X W g hs tk h
    simp only [chkE] at h
    obtain ⟨x, p, e1, hh4⟩ := name_chk h
    subst e1
    replace h := hh4
    exact both (a := .o i) (fun F σ H ρ fp Φ Ψ Q k w nq xq => False.elim w) rfl
theorem sndE_k (d : D)  : SndE T sm xad (.k d) := by
    intro sc e X W g hs tk h
    simp only [chkE] at h
    split at h
    · rename_i c q
      obtain ⟨j, p, e1⟩ := isConst_of q
      subst e1
      exact both (a := .k d) (k_of h) rfl
    · cases h
theorem sndE_g (n : Nat)  : SndE T sm xad (.g n) := by
    intro sc e X W g hs tk h
    simp only [chkE] at h
    obtain ⟨x, p, e1, hh5⟩ := name_chk h
    subst e1
    replace h := hh5
    simp only [Bool.and_eq_true, decide_eq_true_eq] at h
    exact both (a := .g n) (r_g g h.1.1 (by show X.env.scope.names.lookup x = _; rw [hs]; exact gl_of h.1.2) (dbg_of h.2).1) rfl
theorem sndE_bin (p : BOp) (a : E) (b : E) (i_a : SndE T sm xad a) (i_b : SndE T sm xad b) : SndE T sm xad (.bin p a b) := by
    intro sc e X W g hs tk h
    simp only [chkE] at h
    split at h
    · rename_i x o y q
      obtain ⟨pp, e1⟩ := isBin_of q
      subst e1
      simp only [Bool.and_eq_true, decide_eq_true_eq] at h
      obtain ⟨⟨ho, h1⟩, h2⟩ := h
      subst ho
      exact both (a := .bin p a b) (r_bin (o_of g hs a (i_a sc x X W g hs tk h1).1 h1) (o_of g hs b (i_b sc y X W g hs tk h2).1 h2)) rfl
    · cases h
theorem sndE_neg (a : E) (i_a : SndE T sm xad a) : SndE T sm xad (.neg a) := by
    intro sc e X W g hs tk h
    simp only [chkE] at h
    split at h
    · rename_i x q
      obtain ⟨pp, e1⟩ := isUn_of q
      subst e1
      exact both (a := .neg a) (r_neg (i_a sc x X W g hs tk h).1) rfl
    · cases h
theorem sndE_cmp (p : COp) (a : E) (b : E) (i_a : SndE T sm xad a) (i_b : SndE T sm xad b) : SndE T sm xad (.cmp p a b) := by
    intro sc e X W g hs tk h
    simp only [chkE] at h
    split at h
    · rename_i x o y q
      obtain ⟨pp, e1⟩ := isCmp_of q
      subst e1
      simp only [Bool.and_eq_true, decide_eq_true_eq, Bool.not_eq_true'] at h
      obtain ⟨⟨⟨ho, hm⟩, h1⟩, h2⟩ := h
      subst ho
      have oa := o_of g hs a (i_a sc x X W g hs tk h1).1 h1
      have ob := o_of g hs b (i_b sc y X W g hs tk h2).1 h2
      exact ⟨r_cmp g.units hm oa ob, fun _ => t_cmp g.units hm oa ob, fun _ _ _ z => nomatch z⟩
    · cases h
theorem sndE_cmp2 (p : COp) (q : COp) (a : E) (b : E) (c : E) (i_a : SndE T sm xad a) (i_b : SndE T sm xad b) (i_c : SndE T sm xad c) : SndE T sm xad (.cmp2 p q a b c) := by
    intro sc e X W g hs tk h
    simp only [chkE] at h
    split at h
    · rename_i x o o' y z q
      obtain ⟨pp, e1⟩ := isCmp_of q
      subst e1
      simp only [Bool.and_eq_true, decide_eq_true_eq, Bool.not_eq_true'] at h
      obtain ⟨⟨⟨⟨⟨ho, ho'⟩, hm⟩, h1⟩, h2⟩, h3⟩ := h
      subst ho ho'
      have ea := (i_a sc x X W g hs tk h1).1
      have eb := (i_b sc y X W g hs tk h2).1
      have ec := (i_c sc z X W g hs tk h3).1
      exact ⟨r_cmp2 g.units hm ea eb ec, fun _ => t_cmp2 g.units hm ea eb ec, fun _ _ _ z => nomatch z⟩
    · cases h
theorem sndE_and (a : E) (b : E) (i_a : SndE T sm xad a) (i_b : SndE T sm xad b) : SndE T sm xad (.and a b) := by
    intro sc e X W g hs tk h
    simp only [chkE] at h
    split at h
    · rename_i x y r p q
      have e1 := isBool_of q
      subst e1
      simp only [Bool.and_eq_true] at h
      obtain ⟨⟨⟨t1, h1⟩, t2⟩, h2⟩ := h
      obtain ⟨ea, ta, _⟩ := i_a sc x X W g hs tk h1
      cases r with
      | nil =>
        obtain ⟨eb, tb, _⟩ := i_b sc y X W g hs tk h2
        have w := w_and (pos := p) (es := []) (ta t1) (w_one (tb t2))
        exact ⟨r_and ea (r_one eb), fun _ => w.t, fun _ _ _ _ => w⟩
      | cons z r' =>
        obtain ⟨eb, tb, wb⟩ := i_b sc (.BoolOp .And (y :: z :: r') p) X W g hs tk h2
        have w := w_and (ta t1) (wb _ _ _ rfl)
        exact ⟨r_and ea eb, fun _ => w.t, fun _ _ _ _ => w⟩
    · cases h
theorem sndE_or (a : E) (b : E) (i_a : SndE T sm xad a) (i_b : SndE T sm xad b) : SndE T sm xad (.or a b) := by
    intro sc e X W g hs tk h
    simp only [chkE] at h
    split at h
    · rename_i x y r p q
      have e1 := isBool_of q
      subst e1
      simp only [Bool.and_eq_true] at h
      obtain ⟨⟨⟨t1, h1⟩, t2⟩, h2⟩ := h
      obtain ⟨ea, ta, _⟩ := i_a sc x X W g hs tk h1
      cases r with
      | nil =>
        obtain ⟨eb, tb, _⟩ := i_b sc y X W g hs tk h2
        have w := w_or (pos := p) (es := []) (ta t1) (w_one (tb t2))
        exact ⟨r_or ea (r_one eb), fun _ => w.t, fun _ _ _ _ => w⟩
      | cons z r' =>
        obtain ⟨eb, tb, wb⟩ := i_b sc (.BoolOp .Or (y :: z :: r') p) X W g hs tk h2
        have w := w_or (ta t1) (wb _ _ _ rfl)
        exact ⟨r_or ea eb, fun _ => w.t, fun _ _ _ _ => w⟩
    · cases h
theorem sndE_not (a : E) (i_a : SndE T sm xad a) : SndE T sm xad (.not a) := by
    intro sc e X W g hs tk h
    simp only [chkE] at h
    split at h
    · rename_i x q
      obtain ⟨pp, e1⟩ := isUn_of q
      subst e1
      rw [Bool.and_eq_true] at h
      obtain ⟨ea, ta, _⟩ := i_a sc x X W g hs tk h.2
      exact ⟨r_not ea, fun _ => r_notT (ta h.1), fun _ _ _ z => nomatch z⟩
    · cases h
theorem sndE_ite (c : E) (a : E) (b : E) (i_c : SndE T sm xad c) (i_a : SndE T sm xad a) (i_b : SndE T sm xad b) : SndE T sm xad (.ite c a b) := by
    intro sc e X W g hs tk h
    simp only [chkE] at h
    split at h
    · rename_i x y z q
      obtain ⟨pp, e1⟩ := isIf_of q
      subst e1
      simp only [Bool.and_eq_true] at h
      obtain ⟨⟨⟨h0, h1⟩, h2⟩, h3⟩ := h
      exact ⟨r_ite ((i_c sc x X W g hs tk h1).2.1 h0) (i_a sc y X W g hs tk h2).1 (i_b sc z X W g hs tk h3).1, fun z => absurd (show false = true from z) Bool.false_ne_true, fun _ _ _ z => nomatch z⟩
    · cases h
theorem sndE_tup (es : Es) (i_es : SndEs T sm xad es) : SndE T sm xad (.tup es) := by
    intro sc e X W g hs tk h
    simp only [chkE] at h
    split at h
    · rename_i xs q
      obtain ⟨k, pp, e1⟩ := isTup_of q
      subst e1
      exact both (a := .tup es) (r_tup (i_es sc xs X W g hs tk h).1) rfl
    · cases h
theorem sndE_lst (es : Es) (i_es : SndEs T sm xad es) : SndE T sm xad (.lst es) := by
    intro sc e X W g hs tk h
    simp only [chkE] at h
    split at h
    · rename_i xs q
      obtain ⟨pp, e1⟩ := isLst_of q
      subst e1
      exact both (a := .lst es) (r_lst (i_es sc xs X W g hs tk h).1) rfl
    · cases h
theorem sndE_ix (a : E) (i : E) (i_a : SndE T sm xad a) (i_i : SndE T sm xad i) : SndE T sm xad (.ix a i) := by
    intro sc e X W g hs tk h
    simp only [chkE] at h
    split at h
    · rename_i x y q
      obtain ⟨pp, e1⟩ := isSub_of q
      subst e1
      simp only [Bool.and_eq_true] at h
      obtain ⟨⟨h0, h1⟩, h2⟩ := h
      have hy : isSlice y = none := by
        cases z : isSlice y with
        | none => rfl
        | some _ => rw [z] at h0; cases h0
      exact both (a := .ix a i) (r_ix (plainIx_of hy) (o_of g hs a (i_a sc x X W g hs tk h1).1 h1) (i_i sc y X W g hs tk h2).1) rfl
    · cases h
theorem sndE_sl (a : E) (lo : Oe) (hi : Oe) (i_a : SndE T sm xad a) (i_lo : SndOe T sm xad lo) (i_hi : SndOe T sm xad hi) : SndE T sm xad (.sl a lo hi) := by
    intro sc e X W g hs tk h
    simp only [chkE] at h
    split at h
    · rename_i x y q
      obtain ⟨pp, e1⟩ := isSub_of q
      subst e1
      split at h
      · rename_i l u q2
        obtain ⟨p2, e2⟩ := isSlice_of q2
        subst e2
        simp only [Bool.and_eq_true] at h
        obtain ⟨⟨h0, h1⟩, h2⟩ := h
        exact both (a := .sl a lo hi) (r_sl (o_of g hs a (i_a sc x X W g hs tk h0).1 h0) (i_lo sc l X W g hs tk h1).1 (i_hi sc u X W g hs tk h2).1) rfl
      · cases h
    · cases h
theorem sndE_call (n : Nat) (es : Es) (i_es : SndEs T sm xad es) : SndE T sm xad (.call n es) := by
    intro sc e X W g hs tk h
    simp only [chkE] at h
    split at h
    · rename_i f xs pp q
      have e1 := isCall_of q
      subst e1
      rw [Bool.and_eq_true, Bool.not_eq_true'] at h
      obtain ⟨hh, h⟩ := h
      obtain ⟨x, p0, e2, hh6⟩ := name_chk h
      subst e2
      replace h := hh6
      simp only [Bool.and_eq_true, decide_eq_true_eq] at h
      obtain ⟨⟨⟨h0, h1⟩, h2⟩, h3⟩ := h
      obtain ⟨s1, s2, s3, s4, s5⟩ := i_es sc xs X W g hs tk h3
      exact both (a := .call n es) (r_call g hh tk h0 (by show X.env.scope.names.lookup x = _; rw [hs]; exact gl_of h1) (dbg_of h2).1 s3 s1 fun z => by rw [s4 z]; rfl) rfl
    · cases h
theorem sndE_bi (f : BI) (es : Es) (i_es : SndEs T sm xad es) : SndE T sm xad (.bi f es) := by
    intro sc e X W g hs tk h
    simp only [chkE] at h
    split at h
    · rename_i f' xs pp q
      have e1 := isCall_of q
      subst e1
      rw [Bool.and_eq_true, Bool.not_eq_true'] at h
      obtain ⟨hh, h⟩ := h
      obtain ⟨x, p0, e2, hh7⟩ := name_chk h
      subst e2
      replace h := hh7
      simp only [Bool.and_eq_true, decide_eq_true_eq] at h
      obtain ⟨⟨h0, h1⟩, h2⟩ := h
      subst h0
      obtain ⟨b1, b2⟩ := blt_of g hs h1
      split at h2
      · rename_i t a ty
        obtain ⟨y, p1, e3, hh8⟩ := name_chk h2
        subst e3
        replace h2 := hh8
        simp only [Bool.and_eq_true, decide_eq_true_eq] at h2
        obtain ⟨⟨h3, h4⟩, h5⟩ := h2
        subst h3
        obtain ⟨c1, c2⟩ := blt_of g hs h4
        obtain ⟨s1, s2, s3, s4, s5⟩ := i_es sc [a] X W g hs tk h5
        obtain ⟨ha, e0, he0, q⟩ := s5 a rfl
        subst he0
        exact both (a := .bi (.isi t) (.cons e0 .nil)) (r_isi (g.calm hh) t b1 b2 c1 c2 ha q) rfl
      · cases h2
      · cases h2
      · rename_i y ys _ hne
        obtain ⟨s1, s2, s3, s4, s5⟩ := i_es sc (y :: ys) X W g hs tk h2
        have hi : isIsi f = false := by
          cases f <;> first | rfl | exact absurd rfl (hne _)
        exact both (a := .bi f es) (r_bi (g.calm hh) f hi b1 b2 s3 s2) rfl
    · cases h
theorem sndE_mt (m : MT) (a : E) (es : Es) (i_a : SndE T sm xad a) (i_es : SndEs T sm xad es) : SndE T sm xad (.mt m a es) := by
    intro sc e X W g hs tk h
    simp only [chkE] at h
    split at h
    · rename_i f xs pp q
      have e1 := isCall_of q
      subst e1
      split at h
      · rename_i x nm qq q2
        have e2 := isAttr_of q2
        subst e2
        simp only [Bool.and_eq_true, decide_eq_true_eq] at h
        obtain ⟨⟨⟨⟨h0, h1⟩, h2⟩, h3⟩, h4⟩ := h
        subst h0
        have ea := (i_a sc x X W g hs tk h3).1
        split at h4
        · obtain ⟨s1, s2, s3, s4, s5⟩ := i_es sc [] X W g hs tk h4
          have z := s4 rfl
          subst z
          exact both (a := .mt m a .nil) (r_mt0 h1 h2 ea) rfl
        · rename_i y
          obtain ⟨s1, s2, s3, s4, s5⟩ := i_es sc [y] X W g hs tk h4
          obtain ⟨hy, e0, he0, q⟩ := s5 y rfl
          subst he0
          exact both (a := .mt m a (.cons e0 .nil)) (r_mt1 h1 h2 hy ea q) rfl
        · cases h4
      · cases h
    · cases h
theorem sndE_lc (own : List Nat) (it : It) (tg : Tg) (c : Oe) (el : E) (i_it : SndIt T sm xad it) (i_c : SndOe T sm xad c) (i_el : SndE T sm xad el) : SndE T sm xad (.lc own it tg c el) := by
    intro sc e X W g hs tk h
    simp only [chkE] at h
    split at h
    · rename_i x t iter ifs s q
      obtain ⟨pp, e1⟩ := isLc_of q
      subst e1
      simp only [Bool.and_eq_true, decide_eq_true_eq] at h
      obtain ⟨hh, ⟨⟨⟨⟨⟨⟨h0, h1⟩, h2⟩, h3⟩, h4⟩, h5⟩, h6⟩, h7⟩ := h
      rw [Bool.not_eq_true'] at hh
      have ok := blkOk_by h0
      have hsc : ∀ s' H C cl fp, (X.blk s' H s (compEnvC s cl C X.env) fp).env.scope = relS s sc := fun s' H C cl fp => by subst hs; rfl
      have hw : wpE sm (.lc own it tg c el) = wLc (wpIt sm it) ((ownOf T own).map (·.2)) tg (wpIf sm c) (wpE sm el) := by rw [own_snd]; rfl
      refine both (a := .lc own it tg c el) ?_ rfl
      rw [hw]
      refine r_lc (g.calm hh) (by rw [g.N]; exact g.nd) (by rw [g.N, hs]; exact ok) h1 (i_it sc t iter X W g hs tk h2) (fun s' H C cl fp => tg_of (fun z => absurd z Bool.false_ne_true) (g.blk hh ..) (hsc ..) h3) (fun s' H C cl fp => ?_) (fun s' H C cl fp => (i_el (relS s sc) x _ W0 (g.blk hh ..) (hsc ..) takes0 h7).1) (fun i hi => ?_)
      · split at h6
        · exact (i_c (relS s sc) none _ W0 (g.blk hh ..) (hsc ..) takes0 h6).2.1 rfl
        · rename_i y
          exact (i_c (relS s sc) (some y) _ W0 (g.blk hh ..) (hsc ..) takes0 h6).2.2 y rfl h5
        · cases h6
      · rw [own_snd]
        exact of_decide_eq_true (List.all_eq_true.mp h4 i hi)
    · cases h
theorem sndE_dic (a : E) (b : E) (i_a : SndE T sm xad a) (i_b : SndE T sm xad b) : SndE T sm xad (.dic a b) := by
    intro sc e X W g hs tk h
    simp only [chkE] at h
    split at h
    · rename_i x y q
      obtain ⟨pp, e1⟩ := isDic_of q
      subst e1
      rw [Bool.and_eq_true] at h
      exact both (a := .dic a b) (r_dic (i_a sc x X W g hs tk h.1).1 (i_b sc y X W g hs tk h.2).1) rfl
    · cases h
theorem sndE_lrng (a : E) (i_a : SndE T sm xad a) : SndE T sm xad (.lrng a) := by
    intro sc e X W g hs tk h
    simp only [chkE] at h
    split at h
    · rename_i f g' pp q
      have e1 := isCall_of q
      subst e1
      split at h
      · rename_i x h' y p2 q2 q3
        obtain ⟨p3, e2⟩ := isName_of q2
        have e3 := isCall_of q3
        subst e2
        subst e3
        rw [Bool.and_eq_true, Bool.not_eq_true'] at h
        obtain ⟨hh, h⟩ := h
        obtain ⟨z, p4, e4, hh9⟩ := name_chk h
        subst e4
        replace h := hh9
        simp only [Bool.and_eq_true, decide_eq_true_eq] at h
        obtain ⟨⟨⟨⟨⟨h0, h1⟩, hp⟩, h2⟩, h3⟩, h4⟩ := h
        subst h0
        subst h1
        obtain ⟨b1, b2⟩ := blt_of g hs h2
        obtain ⟨c1, c2⟩ := blt_of g hs h3
        exact both (a := .lrng a) (r_lrng (g.calm hh) b1 b2 c1 c2 hp (i_a sc y X W g hs tk h4).1) rfl
      · cases h
    · cases h
theorem sndE_dce : SndE T sm xad (.dce) := by
    intro sc e X W g hs tk h
    simp only [chkE] at h
    obtain ⟨p, e1⟩ := isDic0_of h
    subst e1
    exact both (a := .dce) r_dce rfl
theorem sndEs_nil   : SndEs T sm xad (.nil) := by
    intro sc es X W g hs tk h
    cases es with
    | nil => exact ⟨es_nil, os_nil, rfl, fun _ => rfl, fun a z => nomatch z⟩
    | cons _ _ => simp only [chkEs] at h; cases h
theorem sndEs_cons (e : E) (r : Es) (i_e : SndE T sm xad e) (i_r : SndEs T sm xad r) : SndEs T sm xad (.cons e r) := by
    intro sc es X W g hs tk h
    cases es with
    | nil => simp only [chkEs] at h; cases h
    | cons x xs =>
      simp only [chkEs, Bool.and_eq_true] at h
      obtain ⟨⟨h0, h1⟩, h2⟩ := h
      have ee := (i_e sc x X W g hs tk h1).1
      have eo := o_of g hs e ee h1
      obtain ⟨s1, s2, s3, s4, s5⟩ := i_r sc xs X W g hs tk h2
      refine ⟨es_cons h0 ee s1, os_cons h0 eo s2, by rw [List.all_cons, h0, s3]; rfl, fun z => (by cases z), fun a z => ?_⟩
      cases z
      exact ⟨h0, e, by rw [s4 rfl], eo⟩
theorem sndOe_none   : SndOe T sm xad (.none) := by
    intro sc e X W g hs tk h
    cases e with
    | none => exact ⟨p_none, fun _ => f_nil, fun y z => nomatch z⟩
    | some _ => simp only [chkOe] at h; cases h
theorem sndOe_some (a : E) (i_a : SndE T sm xad a) : SndOe T sm xad (.some a) := by
    intro sc e X W g hs tk h
    cases e with
    | none => simp only [chkOe] at h; cases h
    | some x =>
      simp only [chkOe] at h
      obtain ⟨e1, e2, _⟩ := i_a sc x X W g hs tk h
      refine ⟨p_some e1, fun z => (by cases z), fun y z ht => ?_⟩
      cases z
      exact f_one (e2 ht)
theorem sndIt_of (a : E) (i_a : SndE T sm xad a) : SndIt T sm xad (.of a) := by
    intro sc tg e X W g hs tk h
    simp only [chkIt] at h
    exact i_of (i_a sc e X W g hs tk h).1
theorem sndIt_rng1 (a : E) (i_a : SndE T sm xad a) : SndIt T sm xad (.rng1 a) := by
    intro sc tg e X W g hs tk h
    simp only [chkIt] at h
    split at h
    · rename_i f x pp q
      have e1 := isCall_of q
      subst e1
      obtain ⟨y, p4, e4, hh10⟩ := name_chk h
      subst e4
      replace h := hh10
      simp only [Bool.and_eq_true, decide_eq_true_eq] at h
      obtain ⟨⟨⟨h0, h1⟩, hp⟩, h2⟩ := h
      subst h0
      obtain ⟨b1, b2⟩ := blt_of g hs h1
      exact i_rng1 b1 b2 hp (i_a sc x X W g hs tk h2).1
    · cases h
theorem sndIt_rng2 (a : E) (b : E) (i_a : SndE T sm xad a) (i_b : SndE T sm xad b) : SndIt T sm xad (.rng2 a b) := by
    intro sc tg e X W g hs tk h
    simp only [chkIt] at h
    split at h
    · rename_i f x z pp q
      have e1 := isCall_of q
      subst e1
      obtain ⟨y, p4, e4, hh11⟩ := name_chk h
      subst e4
      replace h := hh11
      simp only [Bool.and_eq_true, decide_eq_true_eq] at h
      obtain ⟨⟨⟨⟨⟨h0, h1⟩, hp⟩, hp2⟩, h2⟩, h3⟩ := h
      subst h0
      obtain ⟨b1, b2⟩ := blt_of g hs h1
      exact i_rng2 b1 b2 hp hp2 (i_a sc x X W g hs tk h2).1 (i_b sc z X W g hs tk h3).1
    · cases h
theorem isSome_tup {t : Expr} (h : (isTup t).isSome = true) : ∃ es k p, t = .Tuple es k p := by
  cases q : isTup t with
  | none => rw [q] at h; cases h
  | some es =>
    obtain ⟨k, p, e⟩ := isTup_of q
    exact ⟨es, k, p, e⟩
theorem sndIt_enum (a : E) (i_a : SndE T sm xad a) : SndIt T sm xad (.enum a) := by
    intro sc tg e X W g hs tk h
    simp only [chkIt] at h
    split at h
    · rename_i f x pp q
      have e1 := isCall_of q
      subst e1
      obtain ⟨y, p4, e4, hh11⟩ := name_chk h
      subst e4
      replace h := hh11
      simp only [Bool.and_eq_true, decide_eq_true_eq] at h
      obtain ⟨⟨⟨⟨h0, h1⟩, ht⟩, hp⟩, h2⟩ := h
      subst h0
      obtain ⟨es, kk, p5, e5⟩ := isSome_tup ht
      subst e5
      obtain ⟨b1, b2⟩ := blt_of g hs h1
      exact i_enum b1 b2 hp (i_a sc x X W g hs tk h2).1
    · cases h
theorem sndIt_zip2 (a : E) (b : E) (i_a : SndE T sm xad a) (i_b : SndE T sm xad b) : SndIt T sm xad (.zip2 a b) := by
    intro sc tg e X W g hs tk h
    simp only [chkIt] at h
    split at h
    · rename_i f x z pp q
      have e1 := isCall_of q
      subst e1
      obtain ⟨y, p4, e4, hh11⟩ := name_chk h
      subst e4
      replace h := hh11
      simp only [Bool.and_eq_true, decide_eq_true_eq] at h
      obtain ⟨⟨⟨⟨⟨⟨h0, h1⟩, ht⟩, hp⟩, hp2⟩, h2⟩, h3⟩ := h
      subst h0
      obtain ⟨es, kk, p5, e5⟩ := isSome_tup ht
      subst e5
      obtain ⟨b1, b2⟩ := blt_of g hs h1
      exact i_zip2 b1 b2 hp hp2 (i_a sc x X W g hs tk h2).1 (i_b sc z X W g hs tk h3).1
    · cases h
theorem sndIt_zip3 (a : E) (b : E) (c : E) (i_a : SndE T sm xad a) (i_b : SndE T sm xad b) (i_c : SndE T sm xad c) : SndIt T sm xad (.zip3 a b c) := by
    intro sc tg e X W g hs tk h
    simp only [chkIt] at h
    split at h
    · rename_i f x z u pp q
      have e1 := isCall_of q
      subst e1
      obtain ⟨y, p4, e4, hh11⟩ := name_chk h
      subst e4
      replace h := hh11
      simp only [Bool.and_eq_true, decide_eq_true_eq] at h
      obtain ⟨⟨⟨⟨⟨⟨⟨⟨h0, h1⟩, ht⟩, hp⟩, hp2⟩, hp3⟩, h2⟩, h3⟩, h4⟩ := h
      subst h0
      obtain ⟨es, kk, p5, e5⟩ := isSome_tup ht
      subst e5
      obtain ⟨b1, b2⟩ := blt_of g hs h1
      exact i_zip3 b1 b2 hp hp2 hp3 (i_a sc x X W g hs tk h2).1 (i_b sc z X W g hs tk h3).1 (i_c sc u X W g hs tk h4).1
    · cases h
/-! ### isinstance of a caught error -/
theorem kit_own {K : PySem.W.Frag} {t : Value} {C : Addr} {b : Bool} (h1 : (PySem.W.clsIn K C).isSome = true) (h2 : PySem.W.typeIn K (.ref C) = some (.type "type")) (h3 : PySem.W.subIn K t (.ref C) = some b) (h4 : t = .ref C → b = true) : PySem.W.kitOne K t (.ref C) = some b := by
  unfold PySem.W.kitOne
  by_cases z : t = .ref C
  · rw [if_pos (beq_iff_eq.mpr z), h4 z]
  · rw [if_neg (fun q => z (beq_iff_eq.mp q))]
    unfold PySem.W.kitCls
    dsimp only
    rw [if_pos (by rw [h1, h2]; rfl), h3]
theorem Xc.kit {L : List (Nat × Str)} {K : PySem.W.Frag} {mg : Str → Option Value} (x : Xc xad K mg L) {n m : Nat} {y z : Str} (h : (n, y) ∈ L) (h' : (m, z) ∈ L) : PySem.W.kitOne K (.ref (xad n)) (.ref (xad m)) = some (subX n m) := by
  obtain ⟨_, _, _, g4, _⟩ := x.mg m z h'
  have hd := (x.ec m z h').hd
  obtain ⟨cd, hc, _⟩ := PySem.W.any_some hd
  refine kit_own (by rw [hc]; rfl) g4 (x.sub n y m z h h') fun e => ?_
  have e' : xad n = xad m := Value.ref.inj e
  have e2 := x.ne n y m z h h' e'
  unfold subX
  simp [e2]
theorem Xc.exm {L : List (Nat × Str)} {K : PySem.W.Frag} {mg : Str → Option Value} (x : Xc xad K mg L) {n m : Nat} {y z : Str} (h : (n, y) ∈ L) (h' : (m, z) ∈ L) : PySem.W.exmOne K (.ref (xad n)) (.ref (xad m)) = some (subX n m) := by
  obtain ⟨_, _, g3, g4, _⟩ := x.mg m z h'
  exact PySem.W.exm_ref g3 (x.ec m z h').hd g4 (x.sub n y m z h h')
/-- isinstance(e, (C, D, ..)), e the exception that the suite holds -/
theorem call_isT {X : Cx} {a D : Addr} {oe : Obj} {pn : List (Addr × Obj)} (C : ExcC X.K D) (hz : Zc (.ref D) none oe) (hf : ∃ vs, oe.data = .fields vs) :
    CallR (X.suite a ((a, oe) :: pn)) (.builtin "isinstance") (fun xs H Q => ∃ (tp : Addr) (cs : List Addr) (b : Bool), xs = [.ref a, .ref tp] ∧ SqT X.K H tp (cs.map V.ref) ∧ PySem.W.kitAny X.K (.ref D) (cs.map Value.ref) = some b ∧ Q (.bl b) H) := by
  intro pins s σ H xs us Q I r h
  obtain ⟨tp, cs, b, rfl, ht, e, q⟩ := h
  have ht' : SqT (X.suite a ((a, oe) :: pn)).K H tp (cs.map V.ref) := ht
  obtain ⟨its, rv, pl, hsz⟩ := I.tuple ht'
  have hits : its = cs.map Value.ref := by
    clear e q ht ht' pl hsz
    induction cs generalizing its with
    | nil => cases rv; rfl
    | cons c cs ih =>
      cases rv with
      | cons r1 r2 =>
        have r1 : _ = Value.ref c := r1
        rw [r1, ih _ r2]; rfl
  cases r with
  | cons rx rr =>
    cases rr with
    | cons rt rr =>
      cases rr
      cases rx
      cases rt
      obtain ⟨hget, _⟩ := I.pin (a, oe) (List.mem_append.mpr (.inl List.mem_cons_self))
      obtain ⟨vs, hv⟩ := hf
      have J : PySem.W.InstAt s.heap a oe D none := by
        obtain ⟨oc, od, oda, osl⟩ := oe
        obtain ⟨h1, h2⟩ := hz
        dsimp only at h1 h2 hv
        subst h1 h2 hv
        exact ⟨hget, rfl, rfl, trivial⟩
      obtain ⟨⟨oc, od, oda, osl⟩, ho, hc, nn, hd⟩ := pl
      dsimp only at hc hd
      subst hc hd hits
      exact PySem.W.kia_tup (PySem.W.handS_kitx_exc C.hg C.hk C.hs C.hd C.ha C.hn C.ht C.hm) I.kIn J ho e (fun z => nomatch z) fun tk => ⟨.bl b, H, I.kept (t' := tk) fun _ _ z => z, rfl, q⟩
theorem kitAny_of {L : List (Nat × Str)} {K : PySem.W.Frag} {mg : Str → Option Value} (x : Xc xad K mg L) {n : Nat} {y : Str} (h : (n, y) ∈ L) : ∀ {cs : List Nat}, (∀ m ∈ cs, ∃ z, (m, z) ∈ L) → PySem.W.kitAny K (.ref (xad n)) (cs.map fun m => Value.ref (xad m)) = some (cs.any fun m => subX n m)
  | [], _ => rfl
  | m :: cs, hm => by
    obtain ⟨z, hz⟩ := hm m List.mem_cons_self
    have ih := kitAny_of x h (cs := cs) fun q hq => hm q (List.mem_cons_of_mem _ hq)
    rw [List.map_cons, List.any_cons]
    unfold PySem.W.kitAny
    rw [x.kit h hz]
    cases e : subX n m with
    | true => rfl
    | false => dsimp only; rw [ih, Bool.false_or]
theorem sndE_ise (i : Nat) (cs : List Nat) : SndE T sm xad (.ise i cs) := by
    intro sc e X W g hs tk h
    simp only [chkE] at h
    split at h
    · rename_i f a b pp q
      have e1 := isCall_of q
      subst e1
      rw [Bool.and_eq_true] at h
      obtain ⟨hot, h⟩ := h
      obtain ⟨x, p0, e2, hh⟩ := name_chk h
      subst e2
      replace h := hh
      simp only [Bool.and_eq_true, decide_eq_true_eq] at h
      obtain ⟨⟨h0, h1⟩, h2⟩ := h
      subst h0
      obtain ⟨b1, b2⟩ := blt_of g hs h1
      obtain ⟨y, p1, e3, hh3⟩ := name_chk h2
      subst e3
      simp only [Bool.and_eq_true, decide_eq_true_eq] at hh3
      obtain ⟨⟨⟨h3, h4⟩, h5⟩, h6⟩ := hh3
      refine both (a := .ise i cs) (fun F σ H ρ fp Φ Ψ Q k w nq xq => ?_) rfl
      obtain ⟨ad, n, en, er, w2⟩ := w
      obtain ⟨Y, oe, pn, eX, hz, hfl, xn, hL⟩ := g.ise hot ad n en
      obtain ⟨ov, e1', e2'⟩ := k.sl i _ er
      obtain ⟨-, e3'⟩ := e2'
      subst e3'
      have pa : PE X (.Name y p1) (tVar i) := pe_var (by rw [g.N]; exact h3) (by rw [hs]; exact vis_of h4) (dbg_of h5).1 (dbg_of h5).2
      have hn : (Str.ofString "isinstance") ≠ "__name__" ∧ (Str.ofString "isinstance" == ("__debug__" : Str)) = false := by decide +kernel
      have hv : bootBuiltins (Str.ofString "isinstance") = some (.builtin "isinstance") := by decide +kernel
      have xc := g.xc
      unfold isCls at h6
      split at h6
      · rename_i es q2
        obtain ⟨kk, p2, e4⟩ := isTup_of q2
        subst e4
        simp only [Bool.and_eq_true, decide_eq_true_eq] at h6
        obtain ⟨⟨hl, hne⟩, ha⟩ := h6
        have allL : ∀ {es : List Expr} {cs : List Nat}, es.length = cs.length → ((es.zip cs).all fun p => nmB p.1 fun y => decide ((p.2, y) ∈ T.ex) && glB sc y && dbgB y) = true →
            (∀ m ∈ cs, ∃ z, (m, z) ∈ T.ex) ∧ es.all plainE = true ∧ ∀ H0 : Hp, ∀ Q0 : List V → Hp → Prop, Q0 (cs.map fun m => V.ref (xad m)) H0 → taW X es σ H0 Q0 := by
          intro es
          induction es with
          | nil =>
            intro cs hl _
            cases cs with
            | nil => exact ⟨fun m hm => (nomatch hm), rfl, fun H0 Q0 q0 => taW_of pa_nil q0⟩
            | cons _ _ => cases hl
          | cons e es ih =>
            intro cs hl ha
            cases cs with
            | nil => cases hl
            | cons m cs =>
              rw [List.zip_cons_cons, List.all_cons, Bool.and_eq_true] at ha
              obtain ⟨z, p9, e9, h9⟩ := name_chk ha.1
              subst e9
              simp only [Bool.and_eq_true, decide_eq_true_eq] at h9
              obtain ⟨⟨z1, z2⟩, z3⟩ := h9
              obtain ⟨i1, i2, i3⟩ := ih (cs := cs) (by simpa using hl) ha.2
              refine ⟨fun m' hm' => ?_, by rw [List.all_cons, i2]; rfl, fun H0 Q0 q0 => ?_⟩
              · rcases List.mem_cons.mp hm' with rfl | hm'
                · exact ⟨z, z1⟩
                · exact i1 m' hm'
              · refine taW_of (pa_cons (pe_glob (v := .ref (xad m)) (by show X.env.scope.names.lookup z = _; rw [hs]; exact gl_of z2) (xc.mg m z z1).1 rfl (dbg_of z3).1) pa_w (star_of rfl _ _)) ?_
                exact i3 H0 _ q0
        obtain ⟨a1, a2, a3⟩ := allL hl ha
        subst eX
        refine teW_of (pe_callB (call_isT (X := Y) (xc.ec n xn hL) hz hfl) b1 b2 hv (pa_cons pa (pa_cons (pe_tup pa_w) pa_nil)) hn.1 hn.2 rfl rfl) ?_
        refine ⟨_, e1', a3 H _ ⟨?_, fun p hp => ?_⟩⟩
        · rw [List.length_map, ← hl, line_eq]
          show es.length ≤ 16777216
          omega
        · refine ⟨p, cs.map xad, cs.any fun m => subX n m, rfl, .of (by rw [upd_same, List.map_map]; rfl), by rw [List.map_map]; exact kitAny_of xc hL a1, ?_⟩
          have x := Ext.upd (o := .tup (cs.map fun m => V.ref (xad m))) k.ex hp
          exact nq (.bl _) ρ _ _ _ fp x.stp (k.ext x) rfl w2
      · rename_i q2
        split at h6
        · rename_i m
          obtain ⟨z, p9, e9, h9⟩ := name_chk h6
          subst e9
          subst eX
          split at h9
          · rename_i em
            subst em
            rw [Bool.and_eq_true, decide_eq_true_eq] at h9
            obtain ⟨z1, z2⟩ := h9
            subst z1
            obtain ⟨c1, c2⟩ := blt_of g hs z2
            have hv2 : bootBuiltins (Str.ofString "ValueError") = some (.type "ValueError") := by decide +kernel
            have hn2 : (Str.ofString "ValueError") ≠ "__name__" ∧ (Str.ofString "ValueError" == ("__debug__" : Str)) = false := by decide +kernel
            refine teW_of (pe_callB (call_isE (X := Y) (xc.ec n xn hL) hz hfl) b1 b2 hv (pa_cons pa (pa_cons (pe_bltn (v := .ty "ValueError") c1 c2 hv2 rfl hn2.1 hn2.2) pa_nil)) hn.1 hn.2 rfl rfl) ?_
            refine ⟨_, e1', .ty "ValueError", .type "ValueError", true, rfl, fun u hu => hu, xc.val n xn hL, ?_⟩
            have e5 : ([6].any fun m => subX n m) = true := by simp [subX]
            rw [e5] at w2
            exact nq (.bl true) ρ _ F H fp (Stp.refl F H fp) k rfl w2
          · simp only [Bool.and_eq_true, decide_eq_true_eq] at h9
            obtain ⟨⟨z1, z2⟩, z3⟩ := h9
            refine teW_of (pe_callB (call_isE (X := Y) (xc.ec n xn hL) hz hfl) b1 b2 hv (pa_cons pa (pa_cons (pe_glob (v := .ref (xad m)) (by show Y.env.scope.names.lookup z = _; rw [show Y.env.scope = sc from hs]; exact gl_of z2) (xc.mg m z z1).1 rfl (dbg_of z3).1) pa_nil)) hn.1 hn.2 rfl rfl) ?_
            refine ⟨_, e1', .ref (xad m), .ref (xad m), subX n m, rfl, fun u hu => hu, xc.kit hL z1, ?_⟩
            have e5 : ([m].any fun m => subX n m) = subX n m := by simp
            rw [e5] at w2
            exact nq (.bl _) ρ _ F H fp (Stp.refl F H fp) k rfl w2
        · cases h6
    · cases h
end
theorem sndE (T : Tb) (sm : Sm) (xad : Nat → Addr) (ir : E) : SndE T sm xad ir :=
  @E.rec (SndE T sm xad) (SndEs T sm xad) (SndOe T sm xad) (SndIt T sm xad) (fun _ => True)
    (fun i  => sndE_v i )
    (fun i  => sndE_o i )
    (fun d  => sndE_k d )
    (fun n  => sndE_g n )
    (fun p a b i_a i_b => sndE_bin p a b i_a i_b)
    (fun a i_a => sndE_neg a i_a)
    (fun p a b i_a i_b => sndE_cmp p a b i_a i_b)
    (fun p q a b c i_a i_b i_c => sndE_cmp2 p q a b c i_a i_b i_c)
    (fun a b i_a i_b => sndE_and a b i_a i_b)
    (fun a b i_a i_b => sndE_or a b i_a i_b)
    (fun a i_a => sndE_not a i_a)
    (fun c a b i_c i_a i_b => sndE_ite c a b i_c i_a i_b)
    (fun es i_es => sndE_tup es i_es)
    (fun es i_es => sndE_lst es i_es)
    (fun a i i_a i_i => sndE_ix a i i_a i_i)
    (fun a lo hi i_a i_lo i_hi => sndE_sl a lo hi i_a i_lo i_hi)
    (fun n es i_es => sndE_call n es i_es)
    (fun f es i_es => sndE_bi f es i_es)
    (fun m a es i_a i_es => sndE_mt m a es i_a i_es)
    (fun own it tg c el i_it _ i_c i_el => sndE_lc own it tg c el i_it i_c i_el)
    (fun a i_a => sndE_lrng a i_a)
    (fun a b i_a i_b => sndE_dic a b i_a i_b)
    sndE_dce
    (fun i cs => sndE_ise i cs)
    sndEs_nil
    (fun e r i_e i_r => sndEs_cons e r i_e i_r)
    sndOe_none
    (fun a i_a => sndOe_some a i_a)
    (fun a i_a => sndIt_of a i_a)
    (fun a i_a => sndIt_rng1 a i_a)
    (fun a b i_a i_b => sndIt_rng2 a b i_a i_b)
    (fun a i_a => sndIt_enum a i_a)
    (fun a b i_a i_b => sndIt_zip2 a b i_a i_b)
    (fun a b c i_a i_b i_c => sndIt_zip3 a b c i_a i_b i_c)
    (fun _ => trivial) (fun _ => trivial) ir
theorem sndEs (T : Tb) (sm : Sm) (xad : Nat → Addr) (ir : Es) : SndEs T sm xad ir :=
  @Es.rec (SndE T sm xad) (SndEs T sm xad) (SndOe T sm xad) (SndIt T sm xad) (fun _ => True)
    (fun i  => sndE_v i )
    (fun i  => sndE_o i )
    (fun d  => sndE_k d )
    (fun n  => sndE_g n )
    (fun p a b i_a i_b => sndE_bin p a b i_a i_b)
    (fun a i_a => sndE_neg a i_a)
    (fun p a b i_a i_b => sndE_cmp p a b i_a i_b)
    (fun p q a b c i_a i_b i_c => sndE_cmp2 p q a b c i_a i_b i_c)
    (fun a b i_a i_b => sndE_and a b i_a i_b)
    (fun a b i_a i_b => sndE_or a b i_a i_b)
    (fun a i_a => sndE_not a i_a)
    (fun c a b i_c i_a i_b => sndE_ite c a b i_c i_a i_b)
    (fun es i_es => sndE_tup es i_es)
    (fun es i_es => sndE_lst es i_es)
    (fun a i i_a i_i => sndE_ix a i i_a i_i)
    (fun a lo hi i_a i_lo i_hi => sndE_sl a lo hi i_a i_lo i_hi)
    (fun n es i_es => sndE_call n es i_es)
    (fun f es i_es => sndE_bi f es i_es)
    (fun m a es i_a i_es => sndE_mt m a es i_a i_es)
    (fun own it tg c el i_it _ i_c i_el => sndE_lc own it tg c el i_it i_c i_el)
    (fun a i_a => sndE_lrng a i_a)
    (fun a b i_a i_b => sndE_dic a b i_a i_b)
    sndE_dce
    (fun i cs => sndE_ise i cs)
    sndEs_nil
    (fun e r i_e i_r => sndEs_cons e r i_e i_r)
    sndOe_none
    (fun a i_a => sndOe_some a i_a)
    (fun a i_a => sndIt_of a i_a)
    (fun a i_a => sndIt_rng1 a i_a)
    (fun a b i_a i_b => sndIt_rng2 a b i_a i_b)
    (fun a i_a => sndIt_enum a i_a)
    (fun a b i_a i_b => sndIt_zip2 a b i_a i_b)
    (fun a b c i_a i_b i_c => sndIt_zip3 a b c i_a i_b i_c)
    (fun _ => trivial) (fun _ => trivial) ir
theorem sndOe (T : Tb) (sm : Sm) (xad : Nat → Addr) (ir : Oe) : SndOe T sm xad ir :=
  @Oe.rec (SndE T sm xad) (SndEs T sm xad) (SndOe T sm xad) (SndIt T sm xad) (fun _ => True)
    (fun i  => sndE_v i )
    (fun i  => sndE_o i )
    (fun d  => sndE_k d )
    (fun n  => sndE_g n )
    (fun p a b i_a i_b => sndE_bin p a b i_a i_b)
    (fun a i_a => sndE_neg a i_a)
    (fun p a b i_a i_b => sndE_cmp p a b i_a i_b)
    (fun p q a b c i_a i_b i_c => sndE_cmp2 p q a b c i_a i_b i_c)
    (fun a b i_a i_b => sndE_and a b i_a i_b)
    (fun a b i_a i_b => sndE_or a b i_a i_b)
    (fun a i_a => sndE_not a i_a)
    (fun c a b i_c i_a i_b => sndE_ite c a b i_c i_a i_b)
    (fun es i_es => sndE_tup es i_es)
    (fun es i_es => sndE_lst es i_es)
    (fun a i i_a i_i => sndE_ix a i i_a i_i)
    (fun a lo hi i_a i_lo i_hi => sndE_sl a lo hi i_a i_lo i_hi)
    (fun n es i_es => sndE_call n es i_es)
    (fun f es i_es => sndE_bi f es i_es)
    (fun m a es i_a i_es => sndE_mt m a es i_a i_es)
    (fun own it tg c el i_it _ i_c i_el => sndE_lc own it tg c el i_it i_c i_el)
    (fun a i_a => sndE_lrng a i_a)
    (fun a b i_a i_b => sndE_dic a b i_a i_b)
    sndE_dce
    (fun i cs => sndE_ise i cs)
    sndEs_nil
    (fun e r i_e i_r => sndEs_cons e r i_e i_r)
    sndOe_none
    (fun a i_a => sndOe_some a i_a)
    (fun a i_a => sndIt_of a i_a)
    (fun a i_a => sndIt_rng1 a i_a)
    (fun a b i_a i_b => sndIt_rng2 a b i_a i_b)
    (fun a i_a => sndIt_enum a i_a)
    (fun a b i_a i_b => sndIt_zip2 a b i_a i_b)
    (fun a b c i_a i_b i_c => sndIt_zip3 a b c i_a i_b i_c)
    (fun _ => trivial) (fun _ => trivial) ir
theorem sndIt (T : Tb) (sm : Sm) (xad : Nat → Addr) (ir : It) : SndIt T sm xad ir :=
  @It.rec (SndE T sm xad) (SndEs T sm xad) (SndOe T sm xad) (SndIt T sm xad) (fun _ => True)
    (fun i  => sndE_v i )
    (fun i  => sndE_o i )
    (fun d  => sndE_k d )
    (fun n  => sndE_g n )
    (fun p a b i_a i_b => sndE_bin p a b i_a i_b)
    (fun a i_a => sndE_neg a i_a)
    (fun p a b i_a i_b => sndE_cmp p a b i_a i_b)
    (fun p q a b c i_a i_b i_c => sndE_cmp2 p q a b c i_a i_b i_c)
    (fun a b i_a i_b => sndE_and a b i_a i_b)
    (fun a b i_a i_b => sndE_or a b i_a i_b)
    (fun a i_a => sndE_not a i_a)
    (fun c a b i_c i_a i_b => sndE_ite c a b i_c i_a i_b)
    (fun es i_es => sndE_tup es i_es)
    (fun es i_es => sndE_lst es i_es)
    (fun a i i_a i_i => sndE_ix a i i_a i_i)
    (fun a lo hi i_a i_lo i_hi => sndE_sl a lo hi i_a i_lo i_hi)
    (fun n es i_es => sndE_call n es i_es)
    (fun f es i_es => sndE_bi f es i_es)
    (fun m a es i_a i_es => sndE_mt m a es i_a i_es)
    (fun own it tg c el i_it _ i_c i_el => sndE_lc own it tg c el i_it i_c i_el)
    (fun a i_a => sndE_lrng a i_a)
    (fun a b i_a i_b => sndE_dic a b i_a i_b)
    sndE_dce
    (fun i cs => sndE_ise i cs)
    sndEs_nil
    (fun e r i_e i_r => sndEs_cons e r i_e i_r)
    sndOe_none
    (fun a i_a => sndOe_some a i_a)
    (fun a i_a => sndIt_of a i_a)
    (fun a i_a => sndIt_rng1 a i_a)
    (fun a b i_a i_b => sndIt_rng2 a b i_a i_b)
    (fun a i_a => sndIt_enum a i_a)
    (fun a b i_a i_b => sndIt_zip2 a b i_a i_b)
    (fun a b c i_a i_b i_c => sndIt_zip3 a b c i_a i_b i_c)
    (fun _ => trivial) (fun _ => trivial) ir
end Ts
set_option Elab.async false
set_option linter.all false
set_option maxRecDepth 100000
set_option maxHeartbeats 1000000
/-! Ts, fourteenth part: statements. -/
namespace Ts
open PySem PySem.Spec PyProof.Rows L2
/-- what is wanted behind a statement, of the layer -/
structure DOk (xad : Nat → Addr) (K : PySem.W.Frag) (W : WX) (F H : Hp) (fp : Fp) (P : Pt) (D : Ends) : Prop where
  nx : ∀ σ' ρ' F' H' fp', Stp F H fp F' H' fp' → Ok K F' H' σ' ρ' fp' → P.nx ρ' → D.nx σ' H'
  rt : ∀ d v σ' ρ' F' H' fp', Stp F H fp F' H' fp' → Ok K F' H' σ' ρ' fp' → Rep K F' d v → P.rt d ρ' → D.rt v H'
  bk : ∀ σ' ρ' F' H' fp', Stp F H fp F' H' fp' → Ok K F' H' σ' ρ' fp' → P.bk ρ' → D.bk σ' H'
  ct : ∀ σ' ρ' F' H' fp', Stp F H fp F' H' fp' → Ok K F' H' σ' ρ' fp' → P.ct ρ' → D.ct σ' H'
  xc : ∀ σ', XCt xad K F H σ' fp P.xc W
theorem DOk.step {xad : Nat → Addr} {K : PySem.W.Frag} {W : WX} {F H F1 H1 : Hp} {fp fp1 : Fp} {P : Pt} {D : Ends} (d : DOk xad K W F H fp P D) (s : Stp F H fp F1 H1 fp1) : DOk xad K W F1 H1 fp1 P D where
  nx := fun σ' ρ' F' H' fp' t => d.nx σ' ρ' F' H' fp' (s.trans t)
  rt := fun a v σ' ρ' F' H' fp' t => d.rt a v σ' ρ' F' H' fp' (s.trans t)
  bk := fun σ' ρ' F' H' fp' t => d.bk σ' ρ' F' H' fp' (s.trans t)
  ct := fun σ' ρ' F' H' fp' t => d.ct σ' ρ' F' H' fp' (s.trans t)
  xc := fun σ' => (d.xc σ').step s
section
variable (xad : Nat → Addr) (X : Cx) (W : WX)
def EvS (st : Stmt) (w : Env → Pt → Prop) : Prop := ∀ F σ H ρ fp P D, Ok X.K F H σ ρ fp → w ρ P → DOk xad X.K W F H fp P D → tsW X st D σ H
def EvSs (sts : List Stmt) (w : Env → Pt → Prop) : Prop := ∀ F σ H ρ fp P D, Ok X.K F H σ ρ fp → w ρ P → DOk xad X.K W F H fp P D → tssW X sts D σ H
/-- a tree of the layer reads an expression -/
def EvET (t : TE) (w : WE) : Prop := ∀ F σ H ρ fp Φ Ψ Q, Ok X.K F H σ ρ fp → w ρ Φ Ψ → NCt X.K F H σ fp Φ Q → XCt xad X.K F H σ fp Ψ W → t σ H Q
def EvNT (t : TE) (w : WE) : Prop := ∀ F σ H ρ fp (Φ : List D → Env → Prop) Ψ Q, Ok X.K F H σ ρ fp → w ρ (fun d ρ' => ∃ ds, d = .lst ds ∧ Φ ds ρ') Ψ →
  (∀ ds ρ' p vs F' H' fp', Stp F H fp F' H' fp' → Ok X.K F' H' σ ρ' fp' → H p = none → F' p = none → H' p = some (.lst vs) → (∀ i, p ∉ fp' i) → RepL X.K F' ds vs → Φ ds ρ' → Q (.ref p) H') → XCt xad X.K F H σ fp Ψ W → t σ H Q
end
section
variable {xad : Nat → Addr} {X : Cx} {W : WX} {T : Tb} {sm : Sm} {e : Expr} {st : Stmt} {sts : List Stmt} {a : E} {pos p : Pos}
theorem ss_nil : EvSs xad X W [] (fun ρ P => P.nx ρ) := fun F σ H ρ fp P D k w d => tssW_of pss_nil (d.nx σ ρ F H fp (Stp.refl F H fp) k w)
theorem ss_cons {w wr : Env → Pt → Prop} (h : EvS xad X W st w) (hr : EvSs xad X W sts wr) : EvSs xad X W (st :: sts) (fun ρ P => w ρ { P with nx := fun ρ' => wr ρ' P }) := by
  intro F σ H ρ fp P D k w1 d
  refine tssW_of (pss_cons ps_w pss_w) (h F σ H ρ fp _ _ k w1 ⟨fun σ' ρ' F' H' fp' s k' q => hr F' σ' H' ρ' fp' P D k' q (d.step s), d.rt, d.bk, d.ct, d.xc⟩)
theorem s_ret {w : WE} (h : EvE xad X W e w) : EvS xad X W (.Return (some e) pos) (fun ρ P => w ρ P.rt P.xc) := by
  intro F σ H ρ fp P D k w1 d
  exact tsW_of (ps_ret pe_w) (h F σ H ρ fp _ _ _ k w1 (fun d' ρ' v F' H' fp' s k' r q => d.rt d' v σ ρ' F' H' fp' s k' r q) (d.xc σ))
theorem s_retn : EvS xad X W (.Return none pos) (fun ρ P => P.rt .non ρ) := by
  intro F σ H ρ fp P D k w1 d
  exact tsW_of ps_retN (d.rt .non .non σ ρ F H fp (Stp.refl F H fp) k rfl w1)
theorem s_pas : EvS xad X W (.Pass pos) (fun ρ P => P.nx ρ) := fun F σ H ρ fp P D k w d => tsW_of ps_pass (d.nx σ ρ F H fp (Stp.refl F H fp) k w)
theorem s_brk : EvS xad X W (.Break pos) (fun ρ P => P.bk ρ) := fun F σ H ρ fp P D k w d => tsW_of ps_break (d.bk σ ρ F H fp (Stp.refl F H fp) k w)
theorem s_cnt : EvS xad X W (.Continue pos) (fun ρ P => P.ct ρ) := fun F σ H ρ fp P D k w d => tsW_of ps_continue (d.ct σ ρ F H fp (Stp.refl F H fp) k w)
theorem s_ex {w : WE} (h : EvE xad X W e w) (hs : swapsWith e none pos.line X.env = pure false) : EvS xad X W (.Expr e pos) (fun ρ P => w ρ (fun _ ρ' => P.nx ρ') P.xc) := by
  intro F σ H ρ fp P D k w1 d
  exact tsW_of (ps_expr pe_w hs) (h F σ H ρ fp _ _ _ k w1 (fun d' ρ' v F' H' fp' s k' r q => d.nx σ ρ' F' H' fp' s k' q) (d.xc σ))
theorem s_ife {c : Expr} {sa sb : List Stmt} {wc : WE} {wa wb : Env → Pt → Prop} (hc : EvT xad X W c wc) (ha : EvSs xad X W sa wa) (hb : EvSs xad X W sb wb) :
    EvS xad X W (.If c sa sb pos) (fun ρ P => wc ρ (fun d ρ' => ∃ k, d = .bl k ∧ if k = true then wa ρ' P else wb ρ' P) P.xc) := by
  intro F σ H ρ fp P D k w1 d
  refine tsW_of (ps_if pt_w pss_w pss_w) (hc F σ H ρ fp (fun c ρ' => if c = true then wa ρ' P else wb ρ' P) _ _ k w1 (fun c ρ' F' H' fp' s k' q => ?_) (d.xc σ))
  cases c with
  | true => exact ha F' σ H' ρ' fp' P D k' q (d.step s)
  | false => exact hb F' σ H' ρ' fp' P D k' q (d.step s)
theorem s_whl {c : Expr} {sb : List Stmt} {wc : WE} {wb : Env → Pt → Prop} (po : PassesOwn (model X.prog X.w) X.A X.env X.xe) (hc : EvT xad X W c wc) (hb : EvSs xad X W sb wb) :
    EvS xad X W (.While c sb [] pos) (fun ρ P => ∃ I : Nat → Env → Prop, (∃ m, I m ρ) ∧ ∀ m ρ, I m ρ → wc ρ (fun d ρ' => ∃ k, d = .bl k ∧
      if k = true then wb ρ' { nx := fun ρ2 => ∃ m', m' < m ∧ I m' ρ2, rt := P.rt, bk := P.nx, ct := fun ρ2 => ∃ m', m' < m ∧ I m' ρ2, xc := P.xc } else P.nx ρ') P.xc) := by
  intro F σ H ρ fp P D k w1 d
  obtain ⟨I, ⟨m, hm⟩, turn⟩ := w1
  refine tsW_of (ps_while po pt_w pss_w) ⟨fun m σ' H' => ∃ ρ' F' fp', Stp F H fp F' H' fp' ∧ Ok X.K F' H' σ' ρ' fp' ∧ I m ρ', ⟨m, ρ, F, fp, Stp.refl F H fp, k, hm⟩, ?_⟩
  rintro m σ1 H1 ⟨ρ1, F1, fp1, s1, k1, i1⟩
  refine hc F1 σ1 H1 ρ1 fp1 (fun c ρ' => if c = true then _ else _) _ _ k1 (turn m ρ1 i1) (fun c ρ2 F2 H2 fp2 s2 k2 q => ?_) ((d.xc σ1).step s1)
  cases c with
  | false => exact d.nx σ1 ρ2 F2 H2 fp2 (s1.trans s2) k2 q
  | true =>
    have S := s1.trans s2
    refine ⟨fun σ' H' => ∃ m', m' < m ∧ ∃ ρ' F' fp', Stp F H fp F' H' fp' ∧ Ok X.K F' H' σ' ρ' fp' ∧ I m' ρ', fun σ' H' z => z, ?_⟩
    refine hb F2 σ1 H2 ρ2 fp2 _ _ k2 q ⟨fun σ' ρ' F' H' fp' s k' ⟨m', l, i'⟩ => ⟨m', l, ρ', F', fp', S.trans s, k', i'⟩, (d.step S).rt, (d.step S).nx, fun σ' ρ' F' H' fp' s k' ⟨m', l, i'⟩ => ⟨m', l, ρ', F', fp', S.trans s, k', i'⟩, (d.step S).xc⟩
theorem s_for {tg iter : Expr} {t : Tg} {sb : List Stmt} {wi : Env → (List D → Env → Prop) → XKn → Prop} {wb : Env → Pt → Prop} (po : PassesOwn (model X.prog X.w) X.A X.env X.xe) (hcalm : X.calm = true) (hn : noSet iter = true) (hi : EvI xad X W tg iter wi) (hg : EvG X tg t) (hb : EvSs xad X W sb wb) :
    EvS xad X W (.For tg iter sb [] pos) (fun ρ P => wi ρ (fun ds ρ1 => ∃ I : Nat → Env → Prop, I 0 ρ1 ∧
      (∀ i d ρ, ds[i]? = some d → I i ρ → tgP t d ρ fun ρ2 => wb ρ2 { nx := I (i + 1), rt := P.rt, bk := P.nx, ct := I (i + 1), xc := P.xc }) ∧ ∀ ρ, I ds.length ρ → P.nx ρ) P.xc) := by
  intro F σ H ρ fp P D k w1 d
  refine tsW_of (ps_for po hcalm pi_w pg_w pss_w (folded_of hn _)) (hi F σ H ρ fp _ _ _ k w1 (fun ds ρ1 J F1 H1 fp1 s1 k1 j w2 => ?_) (d.xc σ))
  obtain ⟨I, h0, turn, fin⟩ := w2
  refine ⟨fun i m σ' H' => m = ds.length - i ∧ i ≤ ds.length ∧ ∃ ρ' F' fp', Stp F1 H1 fp1 F' H' fp' ∧ Ok X.K F' H' σ' ρ' fp' ∧ I i ρ', ⟨ds.length, rfl, Nat.zero_le _, ρ1, F1, fp1, Stp.refl .., k1, h0⟩, ?_⟩
  rintro i m σ2 H2 ⟨rfl, hle, ρ2, F2, fp2, s2, k2, i2⟩
  have e2 : Ex F1 H2 := s2.exF.trans k2.ex
  by_cases hlt : i < ds.length
  · refine .inr ⟨j.go i H2 e2 hlt, fun σ' H' => i + 1 ≤ ds.length ∧ ∃ ρ' F' fp', Stp F1 H1 fp1 F' H' fp' ∧ Ok X.K F' H' σ' ρ' fp' ∧ I (i + 1) ρ', fun σ' H' z => ⟨ds.length - (i + 1), by omega, rfl, z⟩, fun x H3 y => ?_⟩
    obtain ⟨dd, hd, hr⟩ := j.yld i H2 x H3 e2 hlt y
    obtain ⟨F3, x3, r3⟩ := hr F2 s2.exF k2.ex
    have k3 := k2.ext x3
    refine hg F3 σ2 H3 ρ2 fp2 dd x _ _ k3 r3 (turn i dd ρ2 hd i2) fun σ4 ρ4 fp4 s4 k4 _ _ w4 => ?_
    have S : Stp F1 H1 fp1 F3 H3 fp4 := s2.trans (x3.stp.trans s4)
    have dS := d.step (s1.trans S)
    exact hb F3 σ4 H3 ρ4 fp4 _ _ k4 w4 ⟨fun σ' ρ' F' H' fp' s k' i' => ⟨hlt, ρ', F', fp', S.trans s, k', i'⟩, dS.rt, dS.nx, fun σ' ρ' F' H' fp' s k' i' => ⟨hlt, ρ', F', fp', S.trans s, k', i'⟩, dS.xc⟩
  · have e : i = ds.length := by omega
    subst e
    exact .inl ⟨j.stop H2 e2, d.nx σ2 ρ2 F2 H2 fp2 (s1.trans s2) k2 (fin ρ2 i2)⟩
/-- name = value -/
theorem asg_T {i : Nat} {t : TE} {w : WE} (h : EvET xad X W t w) {F H : Hp} {σ : L2.St} {ρ : Env} {fp : Fp} {P : Pt} {D : Ends} (k : Ok X.K F H σ ρ fp) (w1 : w ρ (fun d ρ' => P.nx (ρ'.set i (.val d))) P.xc) (d : DOk xad X.K W F H fp P D) : tAsg t (gName i) D σ H :=
  h F σ H ρ fp _ _ _ k w1 (fun d' ρ' v F' H' fp' s k' r q => d.nx _ _ F' H' _ (s.trans Stp.setVal) (k'.setVal r) q) (d.xc σ)
theorem asg_N {i : Nat} {t : TE} {w : WE} (h : EvNT xad X W t w) {F H : Hp} {σ : L2.St} {ρ : Env} {fp : Fp} {P : Pt} {D : Ends} (k : Ok X.K F H σ ρ fp) (w1 : w ρ (fun d ρ' => ∃ ds, d = .lst ds ∧ i < ρ'.length ∧ P.nx (ρ'.set i (.lst ds))) P.xc) (d : DOk xad X.K W F H fp P D) : tAsg t (gName i) D σ H :=
  h F σ H ρ fp (fun ds ρ' => i < ρ'.length ∧ P.nx (ρ'.set i (.lst ds))) _ _ k w1 (fun ds ρ' p vs F' H' fp' s k' hn hF hH hp r q => by
    have hne : H' p ≠ none := by rw [hH]; simp
    have k2 := k'.setOwn (s := .lst ds) q.1 hF hne hp ⟨p, vs, rfl, rfl, hH, r⟩
    refine d.nx _ _ F' H' _ ⟨s.exF, s.frm, s.new, fun j b hb => ?_, s.thr⟩ k2 q.2
    by_cases z : j = i
    · subst z
      rw [setFp_same] at hb
      have : b = p := by simpa using hb
      subst this
      exact .inr hn
    · rw [setFp_ne z] at hb
      exact s.own j b hb) (d.xc σ)
end
end Ts
set_option Elab.async false
set_option linter.all false
set_option maxRecDepth 100000
set_option maxHeartbeats 1000000
/-! Ts, fifteenth part: a look at statements, and what it gives. -/
namespace Ts
open PySem PySem.Spec PyProof.Rows L2
def nmP (e : Expr) (P : Str → Pos → Bool) : Bool := match e with
  | .Name x p => P x p
  | _ => false
theorem nmP_of {e : Expr} {P : Str → Pos → Bool} (h : nmP e P = true) : ∃ x p, e = .Name x p ∧ P x p = true := by
  cases e with
  | Name x p => exact ⟨x, p, rfl, h⟩
  | _ => cases h
def isAsg : Stmt → Option (Expr × Expr × Pos)
  | .Assign [t] v p => some (t, v, p)
  | _ => none
theorem isAsg_of {st : Stmt} {t v : Expr} {p : Pos} (h : isAsg st = some (t, v, p)) : st = .Assign [t] v p := by
  cases st with
  | Assign ts v' p' =>
    unfold isAsg at h
    split at h
    · rename_i heq
      cases heq
      cases h
      rfl
    · cases h
  | _ => cases h
def isIfS : Stmt → Option (Expr × List Stmt × List Stmt)
  | .If c a b _ => some (c, a, b)
  | _ => none
theorem isIfS_of {st : Stmt} {c : Expr} {a b : List Stmt} (h : isIfS st = some (c, a, b)) : ∃ p, st = .If c a b p := by cases st <;> first | (cases h; exact ⟨_, rfl⟩) | cases h
def isFor : Stmt → Option (Expr × Expr × List Stmt)
  | .For t i b [] _ => some (t, i, b)
  | _ => none
theorem isFor_of {st : Stmt} {t i : Expr} {b : List Stmt} (h : isFor st = some (t, i, b)) : ∃ p, st = .For t i b [] p := by
  cases st with
  | For t' i' b' o p' =>
    cases o with
    | nil => cases h; exact ⟨_, rfl⟩
    | cons _ _ => cases h
  | _ => cases h
def isWhl : Stmt → Option (Expr × List Stmt)
  | .While c b [] _ => some (c, b)
  | _ => none
theorem isWhl_of {st : Stmt} {c : Expr} {b : List Stmt} (h : isWhl st = some (c, b)) : ∃ p, st = .While c b [] p := by
  cases st with
  | While c' b' o p' =>
    cases o with
    | nil => cases h; exact ⟨_, rfl⟩
    | cons _ _ => cases h
  | _ => cases h
def isRet : Stmt → Option (Option Expr)
  | .Return e _ => some e
  | _ => none
theorem isRet_of {st : Stmt} {e : Option Expr} (h : isRet st = some e) : ∃ p, st = .Return e p := by cases st <;> first | (cases h; exact ⟨_, rfl⟩) | cases h
def isExS : Stmt → Option (Expr × Pos)
  | .Expr e p => some (e, p)
  | _ => none
theorem isExS_of {st : Stmt} {e : Expr} {p : Pos} (h : isExS st = some (e, p)) : st = .Expr e p := by cases st <;> first | (cases h; rfl) | cases h
def isRse : Stmt → Option Expr
  | .Raise (some e) none _ => some e
  | _ => none
theorem isRse_of {st : Stmt} {e : Expr} (h : isRse st = some e) : ∃ p, st = .Raise (some e) none p := by
  cases st with
  | Raise a b p =>
    cases a with
    | none => cases h
    | some a =>
      cases b with
      | none => cases h; exact ⟨_, rfl⟩
      | some _ => cases h
  | _ => cases h
def isStrC : Expr → Option Str
  | .Constant (.str x) _ _ => some x
  | _ => none
theorem isStrC_of {e : Expr} {x : Str} (h : isStrC e = some x) : ∃ j p, e = .Constant (.str x) j p := by
  cases e with
  | Constant c j p =>
    cases c with
    | str y => cases h; exact ⟨_, _, rfl⟩
    | _ => cases h
  | _ => cases h
def isPas : Stmt → Bool
  | .Pass _ => true
  | _ => false
def isBrk : Stmt → Bool
  | .Break _ => true
  | _ => false
def isCnt : Stmt → Bool
  | .Continue _ => true
  | _ => false
theorem isPas_of {st : Stmt} (h : isPas st = true) : ∃ p, st = .Pass p := by cases st <;> first | exact ⟨_, rfl⟩ | cases h
theorem isBrk_of {st : Stmt} (h : isBrk st = true) : ∃ p, st = .Break p := by cases st <;> first | exact ⟨_, rfl⟩ | cases h
theorem isCnt_of {st : Stmt} (h : isCnt st = true) : ∃ p, st = .Continue p := by cases st <;> first | exact ⟨_, rfl⟩ | cases h
/-- stored as any value is -/
def swF (v : Expr) (py : Pos) : Bool := match v with
  | .ListComp _ _ _ p => !(py.line == p.line)
  | .SetComp _ _ _ _ => false
  | .DictComp _ _ _ _ _ => false
  | _ => true
theorem swF_of {v : Expr} {py : Pos} (h : swF v py = true) (x : Str) (l : Nat) (env : PySem.Env) : swapsWith v (some (.Name x py)) l env = pure false := by
  cases v with
  | ListComp a b s p =>
    have h : (!(py.line == p.line)) = true := h
    simp only [Bool.not_eq_true'] at h
    unfold swapsWith
    simp only [Expr.pos, h]
    simp
  | SetComp _ _ _ _ => cases h
  | DictComp _ _ _ _ _ => cases h
  | _ => rfl
/-- a list by a comprehension, stored while it is made -/
def swT (v : Expr) (x : Str) (py : Pos) : Bool := match v with
  | .ListComp _ _ s p => (py.line == p.line) && !(s.names.any fun (n, k) => n == x && (k == .local || k == .cell))
  | _ => false
theorem swC_of {v : Expr} {x : Str} {env : PySem.Env} (h : env.scope.names.lookup x = some .cell) (py : Pos) (l : Nat) : swapsWith v (some (.Name x py)) l env = pure false := by
  have ky : env.kindOf x = some .cell := h
  have e : (some NameKind.cell == some NameKind.local) = false := by decide
  cases v with
  | ListComp a b s p => unfold swapsWith; simp only [ky, e]; simp
  | SetComp a b s p => unfold swapsWith; simp only [ky, e]; simp
  | DictComp a b c s p => unfold swapsWith; simp only [ky, e]; simp
  | _ => rfl
def swOk (sc : Scope) (v : Expr) (x : Str) (py : Pos) : Bool := (lclB sc x && (swF v py || swT v x py)) || celB sc x
/-- what is no comprehension -/
def noComp : Expr → Bool
  | .ListComp _ _ _ _ => false
  | .SetComp _ _ _ _ => false
  | .DictComp _ _ _ _ _ => false
  | _ => true
theorem noComp_of {v : Expr} (h : noComp v = true) (t : Option Expr) (l : Nat) (env : PySem.Env) : swapsWith v t l env = pure false := by
  cases v <;> first | rfl | cases h
def notTup : Expr → Bool
  | .Tuple _ _ _ => false
  | _ => true
theorem notTup_of {v : Expr} (h : notTup v = true) (es : List Expr) (k : Nat) (p : Pos) (env : PySem.Env) : swappedStores [.Tuple es k p] v env = pure none := by
  cases v <;> first | rfl | cases h
theorem swU (v : Expr) (es : List Expr) (k : Nat) (p : Pos) (l : Nat) (env : PySem.Env) : swapsWithSole [.Tuple es k p] v l env = pure false := by
  cases v <;> rfl
/-- a list of one's own -/
def isNew : E → Bool
  | .lst _ => true
  | .bi .list (.cons _ .nil) => true
  | .lc _ _ _ _ _ => true
  | _ => false
def isTry : Stmt → Option (List Stmt × Str × Option Str × List Stmt)
  | .Try b [.ExceptHandler (some (.Name x _)) y h _] [] [] _ => some (b, x, y, h)
  | _ => none
theorem isTry_of {st : Stmt} {b h : List Stmt} {x : Str} {y : Option Str} (q : isTry st = some (b, x, y, h)) : ∃ np p' p, st = .Try b [.ExceptHandler (some (.Name x np)) y h p'] [] [] p := by
  unfold isTry at q
  split at q
  · cases q; exact ⟨_, _, _, rfl⟩
  · cases q
mutual
def chkS : Tb → Scope → S → Stmt → Bool
  | T, sc, .set i e, st => match isAsg st with
    | some (t, v, _) => nmP t fun x py => decide (T.N[i]? = some x) && swOk sc v x py && chkE T sc e v
    | none => false
  | T, sc, .new i e, st => match isAsg st with
    | some (t, v, _) => nmP t fun x py => decide (T.N[i]? = some x) && swOk sc v x py && isNew e && chkE T sc e v
    | none => false
  | T, sc, .unp is e, st => match isAsg st with
    | some (t, v, _) => (match isTup t with
      | some _ => chkTg T true sc (.xs is) t && notTup v && chkE T sc e v
      | none => false)
    | none => false
  | T, sc, .app i e, st => match isExS st with
    | some (c, _) => (match isCall c with
      | some (f, [y], p) => (match isAttr f with
        | some (nm, m, q) => nmP nm fun x _ => decide (T.N[i]? = some x) && visB sc x && dbgB x && decide (m = "append") && (q.endLine == p.line) && plainE y && chkE T sc e y
        | none => false)
      | _ => false)
    | none => false
  | T, sc, .seti i k e, st => match isAsg st with
    | some (t, v, _) => (match isSub t with
      | some (nm, idx) => nmP nm fun x _ => decide (T.N[i]? = some x) && visB sc x && dbgB x && (match isSlice idx with | none => true | some _ => false) && noComp v && chkE T sc k idx && chkE T sc e v
      | none => false)
    | none => false
  | T, sc, .ret e, st => match isRet st with
    | some (some v) => chkE T sc e v
    | _ => false
  | T, sc, .retn, st => match isRet st with
    | some none => true
    | _ => false
  | T, sc, .ife c a b, st => match isIfS st with
    | some (x, p, q) => tst c && chkE T sc c x && chkSs T sc a p && chkSs T sc b q
    | none => false
  | T, sc, .for_ tg it b, st => match isFor st with
    | some (t, i, p) => !T.hot && noSet i && chkTg T true sc tg t && chkIt T sc it t i && chkSs T sc b p
    | none => false
  | T, sc, .whl c b, st => match isWhl st with
    | some (x, p) => !T.hot && tst c && chkE T sc c x && chkSs T sc b p
    | none => false
  | T, sc, .ex e, st => match isExS st with
    | some (v, _) => noComp v && chkE T sc e v
    | none => false
  | T, sc, .pas, st => isPas st
  | T, sc, .brk, st => isBrk st
  | T, sc, .cnt, st => isCnt st
  | T, sc, .rse n, st => match isRse st with
    | some c => (match isCall c with
      | some (f, [a], _) => nmB f fun x => !T.hot && decide ((n, x) ∈ T.ex) && glB sc x && dbgB x && (match isStrC a with | some _ => true | none => false)
      | _ => false)
    | none => false
  | T, sc, .nev, _ => true
  | T, sc, .tri b m nm h, st => match isTry st with
    | some (bs, x, y, hs) => !T.hot && chkSs T sc b bs && decide ((m, x) ∈ T.ex) && glB sc x && dbgB x && decide (hs ≠ []) && (match nm, y with
      | none, none => true
      | some i, some z => decide (T.N[i]? = some z) && lclB sc z
      | _, _ => false) && chkSs { T with hot := true } sc h hs
    | none => false
def chkSs : Tb → Scope → Ss → List Stmt → Bool
  | T, sc, .nil, [] => true
  | T, sc, .cons s r, st :: sts => chkS T sc s st && chkSs T sc r sts
  | _, _, _, _ => false
end
section
variable {T : Tb} {sm : Sm} {xad : Nat → Addr} {X : Cx} {W : WX} {sc : Scope}
theorem lc_T {own : List Nat} {it : It} {tg : Tg} {c : Oe} {el : E} {x t iter : Expr} {ifs : List Expr} {s : Scope} {pp : Pos} (g : Gd T sm xad X) (hs : X.env.scope = sc) (hf : X.env.scope.kind = .function) (tk : Takes X W) (h : chkE T sc (.lc own it tg c el) (.ListComp x [⟨t, iter, ifs, 0⟩] s pp) = true) :
    ∃ tr : TE, PE X (.ListComp x [⟨t, iter, ifs, 0⟩] s pp) tr ∧ (∀ i y py spos, X.N[i]? = some y → X.env.scope.names.lookup y = some .local → swT (.ListComp x [⟨t, iter, ifs, 0⟩] s pp) y py = true → PS X (.Assign [.Name y py] (.ListComp x [⟨t, iter, ifs, 0⟩] s pp) spos) (tAsg tr (gName i))) ∧
      EvET xad X W tr (wpE sm (.lc own it tg c el)) ∧ EvNT xad X W tr (wpE sm (.lc own it tg c el)) := by
  simp only [chkE, isLc] at h
  simp only [Bool.and_eq_true, decide_eq_true_eq] at h
  obtain ⟨hh, ⟨⟨⟨⟨⟨⟨h0, h1⟩, h2⟩, h3⟩, h4⟩, h5⟩, h6⟩, h7⟩ := h
  rw [Bool.not_eq_true'] at hh
  have ok := blkOk_by h0
  have hsc : ∀ s' H C cl fp, (X.blk s' H s (compEnvC s cl C X.env) fp).env.scope = relS s sc := fun s' H C cl fp => by subst hs; rfl
  have hw : wpE sm (.lc own it tg c el) = wLc (wpIt sm it) ((ownOf T own).map (·.2)) tg (wpIf sm c) (wpE sm el) := by rw [own_snd]; rfl
  rw [hw]
  have hN : X.N.Nodup := by rw [g.N]; exact g.nd
  have ok' : BlkOk X.N X.env.scope s (ownOf T own) := by rw [g.N, hs]; exact ok
  have hF : ∀ s' H C cl fp, EvF xad (X.blk s' H s (compEnvC s cl C X.env) fp) W0 ifs (wpIf sm c) := fun s' H C cl fp => by
    split at h6
    · exact (sndOe T sm xad c (relS s sc) none _ W0 (g.blk hh ..) (hsc ..) takes0 h6).2.1 rfl
    · rename_i y
      exact (sndOe T sm xad c (relS s sc) (some y) _ W0 (g.blk hh ..) (hsc ..) takes0 h6).2.2 y rfl h5
    · cases h6
  have hI := sndIt T sm xad it sc t iter X W g hs tk h2
  have hG : ∀ s' H C cl fp, EvG (X.blk s' H s (compEnvC s cl C X.env) fp) t tg := fun s' H C cl fp => tg_of (fun z => absurd z Bool.false_ne_true) (g.blk hh ..) (hsc ..) h3
  have hE : ∀ s' H C cl fp, EvE xad (X.blk s' H s (compEnvC s cl C X.env) fp) W0 x (wpE sm el) := fun s' H C cl fp => (sndE T sm xad el (relS s sc) x _ W0 (g.blk hh ..) (hsc ..) takes0 h7).1
  have hS : ∀ i ∈ tgSlots tg, i ∈ (ownOf T own).map (·.2) := fun i hi => by
    rw [own_snd]
    exact of_decide_eq_true (List.all_eq_true.mp h4 i hi)
  refine ⟨_, pe_lc (g.calm hh) hN pi_w ok' pg_A pf_A pe_A (folded_of h1 _), fun i y py spos hi hl hw => ?_, fun F σ H ρ fp Φ Ψ Q k w nq xq => ?_, fun F σ H ρ fp Φ Ψ Q k w nq xq => ?_⟩
  · have hw : ((py.line == pp.line) && !(s.names.any fun (n, k) => n == y && (k == .local || k == .cell))) = true := hw
    rw [Bool.and_eq_true, Bool.not_eq_true'] at hw
    exact ps_setLc (g.calm hh) hN hi hl (sw_true hf hl hw.1 hw.2) pi_w ok' pg_A pf_A pe_A (folded_of h1 _)
  · exact lc_read hI hG hF hE hS k w (fun es ρ' p vs F' H' fp' s k' hn hF hH hp r w2 => frz_new nq s k' hF hH hp r w2 hn) xq
  · refine lc_read hI hG hF hE hS k w (fun es ρ' p vs F' H' fp' s k' hn hF hH hp r w2 => ?_) xq
    obtain ⟨ds, ed, w3⟩ := w2
    cases ed
    exact nq es ρ' p vs F' H' fp' s k' hn hF hH hp r w3
theorem is_lc {e : E} {x : Expr} {gs : List Comprehension} {s : Scope} {pp : Pos} (h : chkE T sc e (.ListComp x gs s pp) = true) : ∃ own it tg c el, e = .lc own it tg c el := by
  cases e with
  | lc own it tg c el => exact ⟨own, it, tg, c, el, rfl⟩
  | _ =>
    simp only [chkE] at h
    exact absurd (show false = true from h) Bool.false_ne_true
theorem lc_shape {own : List Nat} {it : It} {tg : Tg} {c : Oe} {el : E} {v : Expr} (h : chkE T sc (.lc own it tg c el) v = true) : ∃ x t iter ifs s pp, v = .ListComp x [⟨t, iter, ifs, 0⟩] s pp := by
  simp only [chkE] at h
  split at h
  · rename_i x t iter ifs s q
    obtain ⟨pp, e1⟩ := isLc_of q
    exact ⟨x, t, iter, ifs, s, pp, e1⟩
  · cases h
theorem sndN {e : E} {v : Expr} (g : Gd T sm xad X) (hs : X.env.scope = sc) (hf : X.env.scope.kind = .function) (tk : Takes X W) (hn : isNew e = true) (h : chkE T sc e v = true) : EvN xad X W v (wpE sm e) := by
  unfold isNew at hn
  split at hn
  · rename_i es
    simp only [chkE] at h
    split at h
    · rename_i xs q
      obtain ⟨pp, e1⟩ := isLst_of q
      subst e1
      exact n_lst (sndEs T sm xad es sc xs X W g hs tk h).1
    · cases h
  · rename_i e0
    simp only [chkE] at h
    split at h
    · rename_i f' xs pp q
      have e1 := isCall_of q
      subst e1
      rw [Bool.and_eq_true, Bool.not_eq_true'] at h
      obtain ⟨hhot, h⟩ := h
      obtain ⟨x, p0, e2, hh⟩ := name_chk h
      subst e2
      replace h := hh
      simp only [Bool.and_eq_true, decide_eq_true_eq] at h
      obtain ⟨⟨h0, h1⟩, h2⟩ := h
      subst h0
      obtain ⟨b1, b2⟩ := blt_of g hs h1
      cases xs with
      | nil => exact absurd (show false = true from h2) Bool.false_ne_true
      | cons y ys =>
        have h2 : chkEs T sc (.cons e0 .nil) (y :: ys) = true := h2
        simp only [chkEs, Bool.and_eq_true] at h2
        cases ys with
        | cons _ _ => exact absurd (show false = true from h2.2) Bool.false_ne_true
        | nil => exact n_list (g.calm hhot) b1 b2 h2.1.1 (o_of g hs e0 (sndE T sm xad e0 sc y X W g hs tk h2.1.2).1 h2.1.2)
    · cases h
  · obtain ⟨x, t, iter, ifs, s, pp, e1⟩ := lc_shape h
    subst e1
    obtain ⟨tr, p1, _, _, p4⟩ := lc_T g hs hf tk h
    exact fun F σ H ρ fp Φ Ψ Q k w nq xq => teW_of p1 (p4 F σ H ρ fp Φ Ψ Q k w nq xq)
  · cases hn
/-- stores in a name -/
theorem set_T {e : E} {v : Expr} {i : Nat} {x : Str} {py pos : Pos} (g : Gd T sm xad X) (hfn : ∀ x, X.fn x = true) (hs : X.env.scope = sc) (hf : X.env.scope.kind = .function) (tk : Takes X W) (hi : T.N[i]? = some x) (hw : swOk sc v x py = true) (h : chkE T sc e v = true) :
    ∃ tr : TE, PS X (.Assign [.Name x py] v pos) (tAsg tr (gName i)) ∧ EvET xad X W tr (wpE sm e) ∧ (isNew e = true → EvNT xad X W tr (wpE sm e)) := by
  have hN : X.N.Nodup := by rw [g.N]; exact g.nd
  have hi' : X.N[i]? = some x := by rw [g.N]; exact hi
  unfold swOk at hw
  rw [Bool.or_eq_true, Bool.and_eq_true] at hw
  rcases hw with ⟨hl, hw⟩ | hc
  · have hl' : X.env.scope.names.lookup x = some .local := by rw [hs]; exact lcl_of hl
    rcases Bool.or_eq_true _ _ ▸ hw with w | w
    · exact ⟨teW X v, ps_set hN hi' (.inl hl') pe_w (swF_of w x _ _) (.inr hl'), (sndE T sm xad e sc v X W g hs tk h).1, fun hn => sndN g hs hf tk hn h⟩
    · cases v with
      | ListComp a gs s pp =>
        obtain ⟨own, it, tg, c, el, e1⟩ := is_lc h
        subst e1
        obtain ⟨x', t, iter, ifs, s', pp', e2⟩ := lc_shape h
        cases e2
        obtain ⟨tr, p1, p2, p3, p4⟩ := lc_T g hs hf tk h
        exact ⟨tr, p2 i x py pos hi' hl' w, p3, fun _ => p4⟩
      | _ => cases w
  · have hc' : X.env.scope.names.lookup x = some .cell := by rw [hs]; exact cel_of hc
    exact ⟨teW X v, ps_set hN hi' (.inr hc') pe_w (swC_of hc' _ _) (.inl (hfn x)), (sndE T sm xad e sc v X W g hs tk h).1, fun hn => sndN g hs hf tk hn h⟩
end
end Ts
set_option Elab.async false
set_option linter.all false
set_option maxRecDepth 100000
set_option maxHeartbeats 1000000
/-! Ts, sixteenth part: what the look at statements gives. -/
namespace Ts
open PySem PySem.Spec PyProof.Rows L2
section
variable (T : Tb) (sm : Sm) (xad : Nat → Addr)
def SndS (s : S) : Prop := ∀ (sc : Scope) (st : Stmt) (X : Cx) (W : WX), Gd T sm xad X → (∀ x, X.fn x = true) → X.env.scope = sc → X.env.scope.kind = .function → Takes X W → (T.hot = false → PassesOwn (model X.prog X.w) X.A X.env X.xe ∧ X.stack = X.env :: X.outer ∧ X.env.frame = some X.env.locals) → chkS T sc s st = true → EvS xad X W st (wpS sm s)
def SndSs (s : Ss) : Prop := ∀ (sc : Scope) (sts : List Stmt) (X : Cx) (W : WX), Gd T sm xad X → (∀ x, X.fn x = true) → X.env.scope = sc → X.env.scope.kind = .function → Takes X W → (T.hot = false → PassesOwn (model X.prog X.w) X.A X.env X.xe ∧ X.stack = X.env :: X.outer ∧ X.env.frame = some X.env.locals) → chkSs T sc s sts = true → EvSs xad X W sts (wpSs sm s)
end
theorem lst_at {K : PySem.W.Frag} {F H : Hp} {σ : L2.St} {ρ : Env} {fp : Fp} {i : Nat} (k : Ok K F H σ ρ fp) (h : isLstS ρ[i]? = true) : ∃ a vs, σ[i]? = some (some (.ref a)) ∧ fp i = [a] ∧ H a = some (.lst vs) := by
  cases e : ρ[i]? with
  | none => rw [e] at h; cases h
  | some s =>
    rw [e] at h
    cases s with
    | lst ds =>
      obtain ⟨ov, e1, a, vs, e2, hf, hH, _⟩ := k.sl i _ e
      subst e2
      exact ⟨a, vs, e1, hf, hH⟩
    | _ => cases h
theorem sw_sole {v : Expr} (h : noComp v = true) (t : Expr) (l : Nat) (env : PySem.Env) : swapsWithSole [t] v l env = pure false := noComp_of h _ _ _
section
variable {T : Tb} {sm : Sm} {xad : Nat → Addr}
theorem sndS_set (i : Nat) (e : E) : SndS T sm xad (.set i e) := by
  intro sc st X W g hfn hs hf tk po h
  simp only [chkS] at h
  split at h
  · rename_i t v p q
    have e1 := isAsg_of q
    subst e1
    obtain ⟨x, py, e2, hh⟩ := nmP_of h
    subst e2
    replace h := hh
    simp only [Bool.and_eq_true, decide_eq_true_eq] at h
    obtain ⟨⟨h0, h1⟩, h3⟩ := h
    obtain ⟨tr, p1, p2, _⟩ := set_T (pos := p) g hfn hs hf tk h0 h1 h3
    exact fun F σ H ρ fp P D k w d => tsW_of p1 (asg_T p2 k w d)
  · cases h
theorem sndS_new (i : Nat) (e : E) : SndS T sm xad (.new i e) := by
  intro sc st X W g hfn hs hf tk po h
  simp only [chkS] at h
  split at h
  · rename_i t v p q
    have e1 := isAsg_of q
    subst e1
    obtain ⟨x, py, e2, hh⟩ := nmP_of h
    subst e2
    replace h := hh
    simp only [Bool.and_eq_true, decide_eq_true_eq] at h
    obtain ⟨⟨⟨h0, h1⟩, hn⟩, h3⟩ := h
    obtain ⟨tr, p1, _, p2⟩ := set_T (pos := p) g hfn hs hf tk h0 h1 h3
    exact fun F σ H ρ fp P D k w d => tsW_of p1 (asg_N (p2 hn) k w d)
  · cases h
theorem sndS_unp (is : List Nat) (e : E) : SndS T sm xad (.unp is e) := by
  intro sc st X W g hfn hs hf tk po h
  simp only [chkS] at h
  split at h
  · rename_i t v p q
    have e1 := isAsg_of q
    subst e1
    split at h
    · rename_i es q2
      obtain ⟨kk, pp, e2⟩ := isTup_of q2
      subst e2
      simp only [Bool.and_eq_true] at h
      obtain ⟨⟨h0, h1⟩, h2⟩ := h
      have eg := tg_of (fun _ => hfn) g hs h0
      have ee := (sndE T sm xad e sc v X W g hs tk h2).1
      intro F σ H ρ fp P D k w d
      refine tsW_of (ps_asg pe_w pg_w (swU ..) (notTup_of h1 _ _ _ _)) (ee F σ H ρ fp _ _ _ k w (fun d' ρ' v' F' H' fp' s k' r w2 => ?_) (d.xc σ))
      exact eg F' σ H' ρ' fp' d' v' _ _ k' r w2 fun σ2 ρ2 fp2 s2 k2 _ _ w3 => d.nx σ2 ρ2 F' H' fp2 (s.trans s2) k2 w3
    · cases h
  · cases h
theorem sndS_app (i : Nat) (e : E) : SndS T sm xad (.app i e) := by
  intro sc st X W g hfn hs hf tk po h
  simp only [chkS] at h
  split at h
  · rename_i c p0 q
    have e1 := isExS_of q
    subst e1
    split at h
    · rename_i f y p q2
      have e2 := isCall_of q2
      subst e2
      split at h
      · rename_i nm m qq q3
        have e3 := isAttr_of q3
        subst e3
        obtain ⟨x, px, e4, hh⟩ := nmP_of h
        subst e4
        replace h := hh
        simp only [Bool.and_eq_true, decide_eq_true_eq] at h
        obtain ⟨⟨⟨⟨⟨⟨h0, h1⟩, h2⟩, h3⟩, h4⟩, h5⟩, h6⟩ := h
        subst h3
        have ee := (sndE T sm xad e sc y X W g hs tk h6).1
        have pv : PE X (.Name x px) (tVar i) := pe_var (by rw [g.N]; exact h0) (by rw [hs]; exact vis_of h1) (dbg_of h2).1 (dbg_of h2).2
        intro F σ H ρ fp P D k w d
        obtain ⟨w0, w1⟩ := w
        obtain ⟨a, vs, s1, f1, hH⟩ := lst_at k w0
        refine tsW_of (ps_expr (pe_bm PySem.F.plainAttrs_list PySem.F.slot_list_append type_list_append mt_append pv (pa_cons pe_w pa_nil (star_of h5 _ _)) rfl (by
          show ((backTo p (starEach [y] X.env)).all (fun x => !x.1) && _ && _) = true
          rw [star_of h5]; rfl) h4 (star_of h5 _ _) rfl) rfl) ?_
        refine ⟨.ref a, s1, .inl ⟨rfl, vs, .inl (.inl hH)⟩, ?_⟩
        refine ee F σ H ρ fp _ _ _ k w1 (fun d' ρ' v F' H' fp' s k' r w2 => ?_) (d.xc σ)
        obtain ⟨ds, e5, hl, w3⟩ := w2
        obtain ⟨ov, e6, b, us, e7, hf', hH', ru⟩ := k'.sl i _ e5
        subst e7
        rw [s1] at e6
        cases e6
        refine ⟨a, us, v, rfl, rfl, hH', by rw [ru.len, line_eq]; exact hl, ?_⟩
        refine d.nx σ _ F' _ fp' (s.trans (Stp.chg (i := i) (by rw [hf']; simp))) (k'.chg (s' := .lst (ds ++ [d'])) e5 s1 hf' ⟨a, us ++ [v], rfl, rfl, upd_same, ru.app (.one r)⟩) w3
      · cases h
    · cases h
  · cases h
theorem sndS_seti (i : Nat) (kx e : E) : SndS T sm xad (.seti i kx e) := by
  intro sc st X W g hfn hs hf tk po h
  simp only [chkS] at h
  split at h
  · rename_i t v p q
    have e1 := isAsg_of q
    subst e1
    split at h
    · rename_i nm idx q2
      obtain ⟨pp, e2⟩ := isSub_of q2
      subst e2
      obtain ⟨x, px, e4, hh⟩ := nmP_of h
      subst e4
      replace h := hh
      simp only [Bool.and_eq_true, decide_eq_true_eq] at h
      obtain ⟨⟨⟨⟨⟨⟨h0, h1⟩, h2⟩, h3⟩, h4⟩, h5⟩, h6⟩ := h
      have hy : isSlice idx = none := by
        cases z : isSlice idx with
        | none => rfl
        | some _ => rw [z] at h3; cases h3
      have ee := (sndE T sm xad e sc v X W g hs tk h6).1
      have ek := (sndE T sm xad kx sc idx X W g hs tk h5).1
      have pv : PE X (.Name x px) (tVar i) := pe_var (by rw [g.N]; exact h0) (by rw [hs]; exact vis_of h1) (dbg_of h2).1 (dbg_of h2).2
      have ha : ∀ v, assign (.Subscript (.Name x px) idx pp) X.env v = (do
          let ov ← holding [v] (eval (.Name x px) X.env)
          let iv ← holding [v, ov] (eval idx X.env)
          standAt pp
          holding [v, ov, iv] (setItem ov iv v)
          release [v, ov, iv] []) := by
        intro v
        cases idx with
        | Slice lo hi st p3 =>
          cases st with
          | none => exact absurd (show some (lo, hi) = none from hy) (by simp)
          | some _ => rfl
        | _ => rfl
      intro F σ H ρ fp P D k w d
      refine tsW_of (ps_asg pe_w (pg_sub pv pe_w set_list ha) (sw_sole h4 _ _ _) rfl) (ee F σ H ρ fp _ _ _ k w (fun d' ρ1 u F1 H1 fp1 s1 k1 r1 w1 => ?_) (d.xc σ))
      obtain ⟨w0, w1⟩ := w1
      obtain ⟨a, vs, t1, f1, hH⟩ := lst_at k1 w0
      refine ⟨.ref a, t1, ?_⟩
      refine ek F1 σ H1 ρ1 fp1 _ _ _ k1 w1 (fun dk ρ2 y F2 H2 fp2 s2 k2 r2 w2 => ?_) ((d.xc σ).step s1)
      obtain ⟨ds, n, j, ed, e5, hj, w3⟩ := w2
      subst ed
      obtain ⟨ov, e6, b, us, e7, hf', hH', ru⟩ := k2.sl i _ e5
      subst e7
      rw [t1] at e6
      cases e6
      have ry : y = .int n := r2
      subst ry
      refine ⟨a, us, n, j, rfl, rfl, hH', by rw [ru.len]; exact hj, ?_⟩
      exact d.nx σ _ F2 _ fp2 (s1.trans (s2.trans (Stp.chg (i := i) (by rw [hf']; simp)))) (k2.chg (s' := .lst (ds.set j d')) e5 t1 hf' ⟨a, us.set j u, rfl, rfl, upd_same, ru.set (r1.mono s2.exF) j⟩) w3
    · cases h
  · cases h
theorem sndS_ret (e : E) : SndS T sm xad (.ret e) := by
  intro sc st X W g hfn hs hf tk po h
  simp only [chkS] at h
  split at h
  · rename_i v q
    obtain ⟨p, e1⟩ := isRet_of q
    subst e1
    exact s_ret (sndE T sm xad e sc v X W g hs tk h).1
  · cases h
theorem sndS_retn : SndS T sm xad .retn := by
  intro sc st X W g hfn hs hf tk po h
  simp only [chkS] at h
  split at h
  · rename_i q
    obtain ⟨p, e1⟩ := isRet_of q
    subst e1
    exact s_retn
  · cases h
theorem sndS_ife (c : E) (a b : Ss) (ia : SndSs T sm xad a) (ib : SndSs T sm xad b) : SndS T sm xad (.ife c a b) := by
  intro sc st X W g hfn hs hf tk po h
  simp only [chkS] at h
  split at h
  · rename_i x p q qq
    obtain ⟨pp, e1⟩ := isIfS_of qq
    subst e1
    simp only [Bool.and_eq_true] at h
    obtain ⟨⟨⟨h0, h1⟩, h2⟩, h3⟩ := h
    exact s_ife ((sndE T sm xad c sc x X W g hs tk h1).2.1 h0) (ia sc p X W g hfn hs hf tk po h2) (ib sc q X W g hfn hs hf tk po h3)
  · cases h
theorem sndS_for (tg : Tg) (it : It) (b : Ss) (ib : SndSs T sm xad b) : SndS T sm xad (.for_ tg it b) := by
  intro sc st X W g hfn hs hf tk po h
  simp only [chkS] at h
  split at h
  · rename_i t i p q
    obtain ⟨pp, e1⟩ := isFor_of q
    subst e1
    simp only [Bool.and_eq_true] at h
    obtain ⟨⟨⟨⟨hh, h0⟩, h1⟩, h2⟩, h3⟩ := h
    rw [Bool.not_eq_true'] at hh
    exact s_for (po hh).1 (g.calm hh) h0 (sndIt T sm xad it sc t i X W g hs tk h2) (tg_of (fun _ => hfn) g hs h1) (ib sc p X W g hfn hs hf tk po h3)
  · cases h
theorem sndS_whl (c : E) (b : Ss) (ib : SndSs T sm xad b) : SndS T sm xad (.whl c b) := by
  intro sc st X W g hfn hs hf tk po h
  simp only [chkS] at h
  split at h
  · rename_i x p q
    obtain ⟨pp, e1⟩ := isWhl_of q
    subst e1
    simp only [Bool.and_eq_true] at h
    obtain ⟨⟨⟨hh, h0⟩, h1⟩, h2⟩ := h
    rw [Bool.not_eq_true'] at hh
    exact s_whl (po hh).1 ((sndE T sm xad c sc x X W g hs tk h1).2.1 h0) (ib sc p X W g hfn hs hf tk po h2)
  · cases h
theorem sndS_ex (e : E) : SndS T sm xad (.ex e) := by
  intro sc st X W g hfn hs hf tk po h
  simp only [chkS] at h
  split at h
  · rename_i v p q
    have e1 := isExS_of q
    subst e1
    simp only [Bool.and_eq_true] at h
    exact s_ex (sndE T sm xad e sc v X W g hs tk h.2).1 (noComp_of h.1 _ _ _)
  · cases h
theorem sndS_pas : SndS T sm xad .pas := by
  intro sc st X W g hfn hs hf tk po h
  obtain ⟨p, e⟩ := isPas_of h
  subst e
  exact s_pas
theorem sndS_brk : SndS T sm xad .brk := by
  intro sc st X W g hfn hs hf tk po h
  obtain ⟨p, e⟩ := isBrk_of h
  subst e
  exact s_brk
theorem sndS_cnt : SndS T sm xad .cnt := by
  intro sc st X W g hfn hs hf tk po h
  obtain ⟨p, e⟩ := isCnt_of h
  subst e
  exact s_cnt
theorem sndS_rse (n : Nat) : SndS T sm xad (.rse n) := by
  intro sc st X W g hfn hs hf tk po h
  simp only [chkS] at h
  split at h
  · rename_i c q
    obtain ⟨p, e1⟩ := isRse_of q
    subst e1
    split at h
    · rename_i f a pp q2
      have e2 := isCall_of q2
      subst e2
      obtain ⟨x, p0, e3, hh⟩ := name_chk h
      subst e3
      replace h := hh
      simp only [Bool.and_eq_true, decide_eq_true_eq] at h
      obtain ⟨⟨⟨⟨hh', h0⟩, h1⟩, h2⟩, h3⟩ := h
      rw [Bool.not_eq_true'] at hh'
      cases q3 : isStrC a with
      | none => rw [q3] at h3; cases h3
      | some m =>
        obtain ⟨j, p3, e4⟩ := isStrC_of q3
        subst e4
        obtain ⟨g1, g2, g3a, g3b, g4⟩ := g.xc.mg n x h0
        have g3 : Raises X (.ref (xad n)) := raises_own g3a g3b
        intro F σ H ρ fp P D k w d
        exact tsW_of (ps_raise (g.calm hh') tk (pmk_own PySem.F.excBase_ValueError g4 g1 g2 g3 (by show X.env.scope.names.lookup x = _; rw [hs]; exact gl_of h1) (dbg_of h2).1)) (d.xc σ n ρ F H fp (Stp.refl F H fp) k w)
    · cases h
  · cases h
theorem Ok.set0 {K : PySem.W.Frag} {F H : Hp} {σ : L2.St} {ρ : Env} {fp : Fp} {i : Nat} {s : Sl} {ov : Option V} (k : Ok K F H σ ρ fp) (r : SlOk K F H s ov []) : Ok K F H (σ.set i ov) (ρ.set i s) (setFp fp i []) := by
  refine ⟨k.ex, by simp [k.len], fun j s' e => ?_, fun j hj => ?_, fun j a h => ?_, fun j l a h1 h2 => ?_⟩
  · by_cases z : j = i
    · subst z
      have hl : j < ρ.length := by
        rcases Nat.lt_or_ge j ρ.length with q | q
        · exact q
        · rw [List.getElem?_eq_none (by simpa using q)] at e; cases e
      rw [List.getElem?_set_self hl] at e
      cases e
      exact ⟨ov, List.getElem?_set_self (by rw [k.len]; exact hl), by rw [setFp_same]; exact r⟩
    · rw [List.getElem?_set_ne (Ne.symm z)] at e
      obtain ⟨ov', e1, e2⟩ := k.sl j s' e
      exact ⟨ov', by rw [List.getElem?_set_ne (Ne.symm z)]; exact e1, by rw [setFp_ne z]; exact e2⟩
  · by_cases z : j = i
    · subst z; exact setFp_same
    · rw [setFp_ne z]; exact k.out j (by simpa using hj)
  · by_cases z : j = i
    · subst z; rw [setFp_same] at h; cases h
    · rw [setFp_ne z] at h; exact k.own j a h
  · by_cases z : j = i
    · subst z; rw [setFp_same] at h1; cases h1
    · by_cases y : l = i
      · subst y; rw [setFp_same] at h2; cases h2
      · rw [setFp_ne z] at h1; rw [setFp_ne y] at h2; exact k.dis j l a h1 h2
end
section
variable {xad : Nat → Addr} {X : Cx} {T : Tb} {sm : Sm}
theorem Gd.tr (g : Gd T sm xad X) (hh : T.hot = false) (pn : List (Addr × Obj)) (xe : Value → Shared → Prop) : Gd T sm xad (X.tr pn xe) :=
  ⟨g.N, g.nd, g.calm, g.units, fun hh n x h => let ⟨sp, e, c⟩ := g.fn hh n x h; ⟨sp, e, ⟨c.ex⟩⟩, g.cn, g.bl, g.xc, g.xr, fun z => absurd (hh.symm.trans z) (by decide)⟩
theorem Gd.suite (g : Gd T sm xad X) {a : Addr} {oe : Obj} {pn : List (Addr × Obj)} {c : Nat} (hc : c ∈ sm.xr) (hz : Zc (.ref (xad c)) none oe) (hf : ∃ vs, oe.data = .fields vs) :
    Gd { T with hot := true } { sm with exc := some (a, c) } xad (X.suite a ((a, oe) :: pn)) :=
  ⟨g.N, g.nd, (fun z => nomatch z), g.units, (fun z => nomatch z), g.cn, g.bl, g.xc, g.xr, fun _ a' n e => by
    cases e
    exact ⟨X, oe, pn, rfl, hz, hf, g.xr c hc⟩⟩
theorem Gd.suite0 (g : Gd T sm xad X) {a : Addr} {oe : Obj} {pn : List (Addr × Obj)} : Gd { T with hot := true } { sm with exc := none } xad (X.suite a ((a, oe) :: pn)) :=
  ⟨g.N, g.nd, (fun z => nomatch z), g.units, (fun z => nomatch z), g.cn, g.bl, g.xc, g.xr, fun _ a' n e => by cases e⟩
end
def SndSsA (xad : Nat → Addr) (s : Ss) : Prop := ∀ T sm, SndSs T sm xad s
section
variable {T : Tb} {sm : Sm} {xad : Nat → Addr}
theorem sndS_tri (b : Ss) (m : Nat) (nm : Option Nat) (h : Ss) (ib : SndSsA xad b) (ih : SndSsA xad h) : SndS T sm xad (.tri b m nm h) := by
  intro sc st X W g hfn hs hf tk po q
  simp only [chkS] at q
  split at q
  · rename_i bs x y hsu q1
    obtain ⟨np, p', p, e1⟩ := isTry_of q1
    subst e1
    simp only [Bool.and_eq_true, decide_eq_true_eq, Bool.not_eq_true'] at q
    obtain ⟨⟨⟨⟨⟨⟨⟨hh, h1⟩, h2⟩, h3⟩, h4⟩, h5⟩, h6⟩, h7⟩ := q
    obtain ⟨po1, st1, st2⟩ := po hh
    obtain ⟨b₀, suite, esu⟩ : ∃ b₀ suite, hsu = b₀ :: suite := by
      cases hsu with
      | nil => exact absurd rfl h5
      | cons b₀ suite => exact ⟨b₀, suite, rfl⟩
    subst esu
    have xm := g.xc.mg m x h2
    have hN : Names X x (.ref (xad m)) := ⟨by show X.env.scope.names.lookup x = _; rw [hs]; exact gl_of h3, (dbg_of h4).1, .inl xm.1⟩
    have hbody : ∀ (W' : WX) (pn : List (Addr × Obj)) (xe : Value → Shared → Prop), Takes (X.tr pn xe) W' → PassesOwn (model X.prog X.w) X.A X.env xe → EvSs xad (X.tr pn xe) W' bs (wpSs sm b) :=
      fun W' pn xe t p => ib T sm sc bs (X.tr pn xe) W' (g.tr hh pn xe) hfn hs hf t (fun _ => ⟨p, st1, st2⟩) h1
    have hex : ∀ c, c ∈ sm.xr → PySem.W.exmOne X.K (.ref (xad c)) (.ref (xad m)) = some (subX c m) := fun c hc => by
      obtain ⟨z, hz⟩ := g.xr c hc
      exact g.xc.exm hz h2
    cases nm with
    | none =>
      cases y with
      | some _ => cases h6
      | none =>
        intro F σ H ρ fp P D k w d
        let tb : WX → TS := fun W' D' σ' H' => ∀ pn xe, Takes (X.tr pn xe) W' → PassesOwn (model X.prog X.w) X.A X.env xe → tssW (X.tr pn xe) bs D' σ' H'
        let ts : Addr → Value → Option Addr → TS := fun a cls dd D' σ' H' => ∀ oe pn, Zc cls dd oe → (∃ vs, oe.data = .fields vs) → tssW (X.suite a ((a, oe) :: pn)) (b₀ :: suite) D' σ' H'
        refine tsW_of (ps_try_only (tb := tb) (ts := ts) st1 st2 hN tk (fun W' pn xe t p => ⟨fun pins s σ' H' D' I q => q pn xe t p pins s I⟩) (fun a oe cls dd pn hz hv => ⟨fun pins s σ' H' D' I q => q oe pn hz hv pins s I⟩)) ?_
        intro pn xe t p
        refine hbody _ pn xe t p F σ H ρ fp _ D k w ⟨d.nx, d.rt, d.bk, d.ct, fun σ' c ρ' F' H' fp' s' k' ⟨hc, q⟩ => ⟨subX c m, hex c hc, fun e a ha oe pn' hz hv => ?_, fun e => ?_⟩⟩
        · rw [if_pos e] at q
          have dS := d.step s'
          exact ih { T with hot := true } { sm with exc := none } sc (b₀ :: suite) _ W0 g.suite0 hfn hs hf takes0 (fun z => nomatch z) h7 F' σ' H' ρ' fp' _ D k' (q a) ⟨dS.nx, dS.rt, dS.bk, dS.ct, fun _ _ _ _ _ _ _ _ z => z.elim⟩
        · rw [if_neg (by rw [e]; decide)] at q
          exact d.xc σ' c ρ' F' H' fp' s' k' q
    | some i =>
      cases y with
      | none => cases h6
      | some z =>
        rw [Bool.and_eq_true, decide_eq_true_eq] at h6
        have hln : X.env.kindOf z = some .local := by
          have := lcl_of h6.2
          rw [← hs] at this
          exact this
        intro F σ H ρ fp P D k w d
        let tb : WX → TS := fun W' D' σ' H' => ∀ pn xe, Takes (X.tr pn xe) W' → PassesOwn (model X.prog X.w) X.A X.env xe → tssW (X.tr pn xe) bs D' σ' H'
        let ts : Addr → Value → Option Addr → TS := fun a cls dd D' σ' H' => ∀ oe pn, Zc cls dd oe → (∃ vs, oe.data = .fields vs) → tssW (X.suite a ((a, oe) :: pn)) (b₀ :: suite) D' σ' H'
        refine tsW_of (ps_try_as (i := i) (tb := tb) (ts := ts) st1 st2 (by rw [g.N]; exact g.nd) (by rw [g.N]; exact h6.1) hln hN tk (fun W' pn xe t p => ⟨fun pins s σ' H' D' I q => q pn xe t p pins s I⟩) (fun a oe cls dd pn hz hv => ⟨fun pins s σ' H' D' I q => q oe pn hz hv pins s I⟩)) ?_
        intro pn xe t p
        refine hbody _ pn xe t p F σ H ρ fp _ D k w ⟨d.nx, d.rt, d.bk, d.ct, fun σ' c ρ' F' H' fp' s' k' ⟨hc, q⟩ => ⟨subX c m, hex c hc, fun e a ha oe pn' hz hv => ?_, fun e => ?_⟩⟩
        · rw [if_pos e] at q
          have gs := (g.suite (a := a) (pn := pn') hc hz hv)
          have dS := (d.step s').step (Stp.setVal (i := i))
          have k2 : Ok X.K F' H' (σ'.set i (some (.ref a))) (ρ'.set i (.exc a)) (setFp fp' i []) := k'.set0 ⟨rfl, rfl⟩
          have back : ∀ {Θ : Env → Prop} {Z : L2.St → Hp → Prop}, (∀ σ1 ρ1 F1 H1 fp1, Stp F' H' (setFp fp' i []) F1 H1 fp1 → Ok X.K F1 H1 σ1 ρ1 fp1 → Θ ρ1 → Z σ1 H1) →
              ∀ σ1 ρ1 F1 H1 fp1, Stp F' H' (setFp fp' i []) F1 H1 fp1 → Ok X.K F1 H1 σ1 ρ1 fp1 → Θ (ρ1.set i .no) → Z (σ1.set i none) H1 :=
            fun hz' σ1 ρ1 F1 H1 fp1 s1 k1 th => hz' _ _ F1 H1 _ (s1.trans (Stp.setVal (i := i))) (k1.set0 (s := .no) (ov := none) rfl) th
          exact ih { T with hot := true } { sm with exc := some (a, c) } sc (b₀ :: suite) _ W0 gs hfn hs hf takes0 (fun z => nomatch z) h7 F' _ H' _ _ _ _ k2 (q a) ⟨back dS.nx, dS.rt, back dS.bk, back dS.ct, fun _ _ _ _ _ _ _ _ z => z.elim⟩
        · rw [if_neg (by rw [e]; decide)] at q
          exact d.xc σ' c ρ' F' H' fp' s' k' q
  · cases q
theorem sndS_nev : SndS T sm xad .nev := by
  intro sc st X W g hfn hs hf tk po h
  exact fun F σ H ρ fp P D k w d => False.elim w
theorem sndSs_nil : SndSs T sm xad .nil := by
  intro sc sts X W g hfn hs hf tk po h
  cases sts with
  | nil => exact ss_nil
  | cons _ _ => cases h
theorem sndSs_cons (s : S) (r : Ss) (i_s : SndS T sm xad s) (i_r : SndSs T sm xad r) : SndSs T sm xad (.cons s r) := by
  intro sc sts X W g hfn hs hf tk po h
  cases sts with
  | nil => cases h
  | cons st sts =>
    simp only [chkSs, Bool.and_eq_true] at h
    exact ss_cons (w := wpS sm s) (wr := wpSs sm r) (i_s sc st X W g hfn hs hf tk po h.1) (i_r sc sts X W g hfn hs hf tk po h.2)
end
theorem sndSs (T : Tb) (sm : Sm) (xad : Nat → Addr) (s : Ss) : SndSs T sm xad s :=
  @Ss.rec (fun s => ∀ T sm, SndS T sm xad s) (fun s => ∀ T sm, SndSs T sm xad s) (fun i e T sm => sndS_set i e) (fun i e T sm => sndS_new i e) (fun is e T sm => sndS_unp is e) (fun i e T sm => sndS_app i e) (fun i k e T sm => sndS_seti i k e)
    (fun e T sm => sndS_ret e) (fun T sm => sndS_retn) (fun c a b ia ib T sm => sndS_ife c a b (ia T sm) (ib T sm)) (fun tg it b ib T sm => sndS_for tg it b (ib T sm)) (fun c b ib T sm => sndS_whl c b (ib T sm)) (fun e T sm => sndS_ex e) (fun T sm => sndS_pas) (fun T sm => sndS_brk) (fun T sm => sndS_cnt) (fun n T sm => sndS_rse n) (fun T sm => sndS_nev)
    (fun b m nm h ib ih T sm => sndS_tri b m nm h ib ih) (fun T sm => sndSs_nil) (fun s r is ir T sm => sndSs_cons s r (is T sm) (ir T sm)) s T sm
end Ts
set_option Elab.async false
set_option linter.all false
set_option maxRecDepth 100000
set_option maxHeartbeats 1000000
/-! Ts, seventeenth part: defs. -/
namespace Ts
open PySem PySem.Spec PyProof.Rows L2
def rho0 (N : Nat) (ds : List D) : Env := ds.map .val ++ List.replicate (N - ds.length) .no
theorem rho0_lt {n : Nat} {ds : List D} {i : Nat} {d : D} (h : ds[i]? = some d) : (rho0 n ds)[i]? = some (.val d) := by
  have hl := (List.getElem?_eq_some_iff.mp h).1
  unfold rho0
  rw [List.getElem?_append_left (by simpa using hl), List.getElem?_map, h]
  rfl
theorem ok_start {K : PySem.W.Frag} {F H : Hp} {N : List Str} {ds : List D} {vs : List V} (ex : Ex F H) (r : RepL K F ds vs) : Ok K F H (L2.start N vs) (rho0 N.length ds) (fun _ => []) := by
  have hl := r.len
  refine ⟨ex, by unfold L2.start rho0; simp [hl], fun i s e => ?_, fun _ _ => rfl, fun i a h => (by cases h), fun i j a h => (by cases h)⟩
  unfold rho0 at e
  unfold L2.start
  by_cases hi : i < ds.length
  · rw [List.getElem?_append_left (by simpa using hi), List.getElem?_map] at e
    cases hd : ds[i]? with
    | none => rw [hd] at e; cases e
    | some d =>
      rw [hd] at e
      cases e
      obtain ⟨v, hv, rv⟩ := r.get hd
      exact ⟨some v, by rw [List.getElem?_append_left (by simp [hl, hi]), List.getElem?_map, hv]; rfl, rfl, v, rfl, rv⟩
  · have hi' : ds.length ≤ i := Nat.le_of_not_lt hi
    rw [List.getElem?_append_right (by simpa using hi')] at e
    rw [List.getElem?_append_right (by simp [hl, hi'])]
    simp only [List.length_map, List.getElem?_replicate] at e ⊢
    by_cases hj : i - ds.length < N.length - ds.length
    · rw [if_pos hj] at e
      cases e
      exact ⟨none, by rw [hl, if_pos hj], rfl⟩
    · rw [if_neg hj] at e
      cases e
theorem Stp.ext0 {F H F' H' : Hp} {fp' : Fp} (s : Stp F H (fun _ => []) F' H' fp') (h : Ex F' H') : Ext F H F' H' :=
  ⟨s.exF, fun b o e => s.frm b o e (fun _ z => by cases z), h, fun b e f => s.new b e f fun _ z => by cases z⟩
/-- what is wanted behind a def's body -/
def pt (sp : PSpec) (g : sp.G) : Pt := { nx := fun _ => sp.ret g .non, rt := fun d _ => sp.ret g d, xc := fun c _ => sp.exc g c }
/-- a def that may be called -/
structure Cal (xad : Nat → Addr) (P : Program) (w : World) (K : PySem.W.Frag) (mg : Str → Option Value) (base : Heap) (k : Nat) (x : Str) (sp : PSpec) : Prop where
  ex : ∃ (f : Addr) (fd : FuncData) (ps : List Str), FnOk P w K mg base (L2.CX P w) k f fd ps (spP xad K sp) ∧ mg x = some (.ref f) ∧ PySem.W.keepIn K (.ref f) = true ∧ Binds K fd ps []
/-- what a body may use -/
structure Uses (T : Tb) (sm : Sm) (xad : Nat → Addr) (P : Program) (w : World) (K : PySem.W.Frag) (mg : Str → Option Value) (base : Heap) (k : Nat) : Prop where
  fn : ∀ (n : Nat) x, T.fn[n]? = some x → ∃ sp j, sm.fn[n]? = some sp ∧ j ≤ k ∧ Cal xad P w K mg base j x sp
  cn : ∀ (n : Nat) x d, T.cn[n]? = some x → sm.cn[n]? = some d → ∃ v u, mg x = some u ∧ RelV v u ∧ ∀ F, Rep K F d v
  bl : ∀ x, x ∈ T.bl → mg x = none
  xc : Xc xad K mg T.ex
  xr : ∀ c ∈ sm.xr, ∃ x, (c, x) ∈ T.ex
  hot : T.hot = false
theorem Xc.weak {xad : Nat → Addr} {K : PySem.W.Frag} {mg : Str → Option Value} {L L' : List (Nat × Str)} (x : Xc xad K mg L) (h : ∀ p ∈ L', p ∈ L) : Xc xad K mg L' :=
  ⟨fun n y q => x.mg n y (h _ q), fun n y m z q q' => x.sub n y m z (h _ q) (h _ q'), fun n y q => x.val n y (h _ q), fun n y q => x.ec n y (h _ q), fun n y m z q q' => x.ne n y m z (h _ q) (h _ q')⟩
theorem xr_of {T : Tb} {sm : Sm} (h : (sm.xr.all fun c => T.ex.any fun p => p.1 == c) = true) : ∀ c ∈ sm.xr, ∃ x, (c, x) ∈ T.ex := fun c hc => by
  have q := List.all_eq_true.mp h c hc
  obtain ⟨p, hp, e⟩ := List.any_eq_true.mp q
  exact ⟨p.2, by rw [← show p.1 = c from by simpa using e]; exact hp⟩
/-- classes by their numbers -/
def xadL (L : List (Nat × Addr)) (n : Nat) : Addr := (L.lookup n).getD 0
theorem fn_xad {xad xad' : Nat → Addr} {P : Program} {w : World} {K : PySem.W.Frag} {mg : Str → Option Value} {base : Heap} {k : Nat} {f : Addr} {fd : FuncData} {ps : List Str} {sp : PSpec} (h : ∀ g c, ¬ sp.exc g c) (F : FnOk P w K mg base (L2.CX P w) k f fd ps (spP xad K sp)) :
    FnOk P w K mg base (L2.CX P w) k f fd ps (spP xad' K sp) :=
  F.imp fun vs H Q E ⟨h1, F0, ds, g, h2, h3, h4, h5, h6⟩ => ⟨h1, F0, ds, g, h2, h3, h4, h5, fun c _ _ _ z => absurd z (h g c)⟩
theorem def_ok {T : Tb} {sm : Sm} {xad : Nat → Addr} {P : Program} {w : World} {K : PySem.W.Frag} {mg : Str → Option Value} {base : Heap} {k : Nat} {x qual : Str} {st : Stmt} {f : Addr} {fd : FuncData} {ps : List Str} {sp : PSpec}
    (F : Fun K x qual st f fd) (S : FnScope T.N ps (defScope st)) (U : Uses T sm xad P w K mg base k) (body : Ss) (hc : chkSs T (defScope st) body (defBody st) = true) (har : sp.ar = ps.length)
    (hw : ∀ g ds, ds.length = ps.length → sp.pre g ds → wpSs sm body (rho0 T.N.length ds) (pt sp g)) :
    FnOk P w K mg base (L2.CX P w) (k + 2) f fd ps (spP xad K sp) := by
  refine F.okX S (fun vs H Q E h => h.1.trans har) fun cdv A outer s H vs Q E hr h => ?_
  obtain ⟨hl, F0, ds, gh, ex, r, hp, hret, hexc⟩ := h
  have g : Gd T sm xad (cxOf (L2.CX P w) P w K mg base T.N qual (defScope st) f cdv A outer s H E) := {
    N := rfl
    nd := S.nd
    calm := fun _ => rfl
    units := by
      have q := (hr.mono (j := 1) (by omega)).un
      show (A.deeper (envOfC qual (defScope st) s.heap.objs.size f cdv)).units + 65 < cLine
      omega
    fn := fun _ n y hy => by
      obtain ⟨sp', j, e1, hj, f', fd', ps', q1, q2, q3, q4⟩ := U.fn n y hy
      exact ⟨sp', e1, j, f', fd', ps', q1, hr.mono (by omega), q2, q3, q4⟩
    cn := U.cn
    bl := U.bl
    xc := U.xc
    xr := U.xr
    ise := fun z => absurd (U.hot.symm.trans z) (by decide) }
  refine ⟨_, pss_w, ?_⟩
  refine sndSs T sm xad body (defScope st) (defBody st) _ (fun cls d _ H' => E cls d H') g (fun _ => rfl) rfl S.kind (takes_of rfl rfl rfl rfl) (fun _ => ⟨passes_of rfl, rfl, rfl⟩) hc F0 (L2.start T.N vs) H (rho0 T.N.length ds) (fun _ => []) _ _ (ok_start ex r) (hw gh ds (by rw [← har, ← hl, r.len]) hp) ?_
  refine ⟨fun σ' ρ' F' H' fp' st' k' q => hret .non .non F' H' (st'.ext0 k'.ex) rfl q, fun d v σ' ρ' F' H' fp' st' k' rv q => hret d v F' H' (st'.ext0 k'.ex) rv q, fun _ _ _ _ _ _ _ z => z.elim, fun _ _ _ _ _ _ _ z => z.elim, fun σ' c ρ' F' H' fp' st' k' q => hexc c F' H' (st'.ext0 k'.ex) q⟩
/-! ### tuples that the text writes -/
def valB : Value → D → Bool
  | .str x _, .str s => decide (x.cps.toList = s)
  | .int i _, .int j => decide (i = j)
  | .bool a, .bl b => a == b
  | .none, .non => true
  | _, _ => false
def valsB : List Value → List D → Bool
  | [], [] => true
  | u :: us, d :: ds => valB u d && valsB us ds
  | _, _ => false
def isTy (n : String) : Value → Bool
  | .type m => m == n
  | _ => false
def seqB (o : Obj) (ds : List D) : Bool := match o.data with
  | .seq its _ => decide (its.size ≤ sizeLine) && valsB its.toList ds
  | _ => false
def tupB (o : Obj) (ds : List D) : Bool := isTy "tuple" o.cls && seqB o ds
theorem valB_of {K : PySem.W.Frag} {u : Value} {d : D} (h : valB u d = true) : ∃ v, RelV v u ∧ ∀ F, Rep K F d v := by
  unfold valB at h
  split at h
  · rename_i x t s
    exact ⟨.str x, ⟨_, rfl⟩, fun _ => by
      have e : x.cps.toList = s := of_decide_eq_true h
      show V.str x = V.str (St s)
      rw [← e, ← St_of x]⟩
  · rename_i i t j
    exact ⟨.int i, ⟨_, rfl⟩, fun _ => by
      have e : i = j := of_decide_eq_true h
      show V.int i = V.int j
      rw [e]⟩
  · rename_i a b
    exact ⟨.bl a, rfl, fun _ => by
      have e : a = b := by simpa using h
      show V.bl a = V.bl b
      rw [e]⟩
  · exact ⟨.non, rfl, fun _ => rfl⟩
  · cases h
theorem valsB_of {K : PySem.W.Frag} : ∀ {us : List Value} {ds : List D}, valsB us ds = true → ∃ vs, Vals vs us ∧ ∀ F, RepL K F ds vs
  | [], [], _ => ⟨[], .nil, fun _ => rfl⟩
  | u :: us, d :: ds, h => by
    unfold valsB at h
    rw [Bool.and_eq_true] at h
    obtain ⟨v, r1, r2⟩ := valB_of (K := K) h.1
    obtain ⟨vs, q1, q2⟩ := valsB_of (K := K) h.2
    exact ⟨v :: vs, .cons r1 q1, fun F => ⟨v, vs, rfl, r2 F, q2 F⟩⟩
  | [], _ :: _, h => by cases h
  | _ :: _, [], h => by cases h
theorem tup_rep {K : PySem.W.Frag} {a : Addr} {o : Obj} {ds : List D} (l : K.lookup a = some o) (h : tupB o ds = true) : ∀ F, Rep K F (.tup ds) (.ref a) := fun F => by
  unfold tupB at h
  rw [Bool.and_eq_true] at h
  obtain ⟨h1, h2⟩ := h
  unfold seqB at h2
  split at h2
  · rename_i its n e
    rw [Bool.and_eq_true] at h2
    obtain ⟨vs, q1, q2⟩ := valsB_of (K := K) h2.2
    have hc : o.cls = .type "tuple" := by
      unfold isTy at h1
      split at h1
      · rename_i m e2
        rw [e2, show m = "tuple" by simpa using h1]
      · cases h1
    exact ⟨a, vs, rfl, .inr ⟨o, its, n, l, hc, e, of_decide_eq_true h2.1, q1⟩, q2 F⟩
  · cases h2
end Ts
set_option Elab.async false
set_option linter.all false
set_option maxRecDepth 100000
/-! Ts, eighteenth part: small rewriting rules (printed by genR.py). -/
namespace Ts
open PySem L2
def ownS : Option Sl → Prop
  | some (.lst _) => True
  | some (.dct _ _) => True
  | some (.ins _ _ _) => True
  | _ => False
def varS (s : Option Sl) (ρ : Env) (i : Nat) (Φ : EK) : Prop :=
  match s with
  | some (.val d) => Φ d ρ
  | some (.lst ds) => Φ (.lst ds) (ρ.set i (.val (.lst ds)))
  | _ => False
theorem q_o_v {i} {w : WE} {ρ Ω Ψ} : opE (.v i) w ρ Ω Ψ = w ρ (fun d ρ1 => Ω (.val d) ρ1) Ψ := rfl
theorem q_o_k {d} {w : WE} {ρ Ω Ψ} : opE (.k d) w ρ Ω Ψ = w ρ (fun d ρ1 => Ω (.val d) ρ1) Ψ := rfl
theorem q_o_g {n} {w : WE} {ρ Ω Ψ} : opE (.g n) w ρ Ω Ψ = w ρ (fun d ρ1 => Ω (.val d) ρ1) Ψ := rfl
theorem q_o_bin {p a b} {w : WE} {ρ Ω Ψ} : opE (.bin p a b) w ρ Ω Ψ = w ρ (fun d ρ1 => Ω (.val d) ρ1) Ψ := rfl
theorem q_o_neg {a} {w : WE} {ρ Ω Ψ} : opE (.neg a) w ρ Ω Ψ = w ρ (fun d ρ1 => Ω (.val d) ρ1) Ψ := rfl
theorem q_o_cmp {p a b} {w : WE} {ρ Ω Ψ} : opE (.cmp p a b) w ρ Ω Ψ = w ρ (fun d ρ1 => Ω (.val d) ρ1) Ψ := rfl
theorem q_o_cmp2 {p q a b c} {w : WE} {ρ Ω Ψ} : opE (.cmp2 p q a b c) w ρ Ω Ψ = w ρ (fun d ρ1 => Ω (.val d) ρ1) Ψ := rfl
theorem q_o_and {a b} {w : WE} {ρ Ω Ψ} : opE (.and a b) w ρ Ω Ψ = w ρ (fun d ρ1 => Ω (.val d) ρ1) Ψ := rfl
theorem q_o_or {a b} {w : WE} {ρ Ω Ψ} : opE (.or a b) w ρ Ω Ψ = w ρ (fun d ρ1 => Ω (.val d) ρ1) Ψ := rfl
theorem q_o_not {a} {w : WE} {ρ Ω Ψ} : opE (.not a) w ρ Ω Ψ = w ρ (fun d ρ1 => Ω (.val d) ρ1) Ψ := rfl
theorem q_o_ite {c a b} {w : WE} {ρ Ω Ψ} : opE (.ite c a b) w ρ Ω Ψ = w ρ (fun d ρ1 => Ω (.val d) ρ1) Ψ := rfl
theorem q_o_tup {es} {w : WE} {ρ Ω Ψ} : opE (.tup es) w ρ Ω Ψ = w ρ (fun d ρ1 => Ω (.val d) ρ1) Ψ := rfl
theorem q_o_lst {es} {w : WE} {ρ Ω Ψ} : opE (.lst es) w ρ Ω Ψ = w ρ (fun d ρ1 => Ω (.val d) ρ1) Ψ := rfl
theorem q_o_ix {a i} {w : WE} {ρ Ω Ψ} : opE (.ix a i) w ρ Ω Ψ = w ρ (fun d ρ1 => Ω (.val d) ρ1) Ψ := rfl
theorem q_o_sl {a lo hi} {w : WE} {ρ Ω Ψ} : opE (.sl a lo hi) w ρ Ω Ψ = w ρ (fun d ρ1 => Ω (.val d) ρ1) Ψ := rfl
theorem q_o_call {n es} {w : WE} {ρ Ω Ψ} : opE (.call n es) w ρ Ω Ψ = w ρ (fun d ρ1 => Ω (.val d) ρ1) Ψ := rfl
theorem q_o_bi {f es} {w : WE} {ρ Ω Ψ} : opE (.bi f es) w ρ Ω Ψ = w ρ (fun d ρ1 => Ω (.val d) ρ1) Ψ := rfl
theorem q_o_mt {m a es} {w : WE} {ρ Ω Ψ} : opE (.mt m a es) w ρ Ω Ψ = w ρ (fun d ρ1 => Ω (.val d) ρ1) Ψ := rfl
theorem q_o_lc {own it tg c e} {w : WE} {ρ Ω Ψ} : opE (.lc own it tg c e) w ρ Ω Ψ = w ρ (fun d ρ1 => Ω (.val d) ρ1) Ψ := rfl
theorem q_o_lrng {a} {w : WE} {ρ Ω Ψ} : opE (.lrng a) w ρ Ω Ψ = w ρ (fun d ρ1 => Ω (.val d) ρ1) Ψ := rfl
theorem q_o_dic {a b} {w : WE} {ρ Ω Ψ} : opE (.dic a b) w ρ Ω Ψ = w ρ (fun d ρ1 => Ω (.val d) ρ1) Ψ := rfl
theorem q_o_dce  {w : WE} {ρ Ω Ψ} : opE (.dce ) w ρ Ω Ψ = w ρ (fun d ρ1 => Ω (.val d) ρ1) Ψ := rfl
theorem q_o_ise {i cs} {w : WE} {ρ Ω Ψ} : opE (.ise i cs) w ρ Ω Ψ = w ρ (fun d ρ1 => Ω (.val d) ρ1) Ψ := rfl
theorem q_o_o {i : Nat} {w : WE} {ρ Ω Ψ} : opE (.o i) w ρ Ω Ψ = (ownS ρ[i]? ∧ Ω (.own i) ρ) := rfl
theorem q_od_v {ρ x P} : odP ρ (.val x) P = P x := rfl
theorem q_od_o {ρ i P} : odP ρ (.own i) P = svP ρ[i]? P := rfl
theorem q_ods_n {ρ P} : odsP ρ [] P = P [] := rfl
theorem q_ods_c {ρ o os P} : odsP ρ (o :: os) P = odP ρ o fun d => odsP ρ os fun ds => P (d :: ds) := rfl
theorem q_sv_v {d P} : svP (some (.val d)) P = P d := rfl
theorem q_sv_l {d P} : svP (some (.lst d)) P = P (.lst d) := rfl
theorem q_own_l {d} : ownS (some (.lst d)) = True := rfl
theorem q_isl_l {d} : isLstS (some (.lst d)) = true := rfl
theorem q_vs_v {d ρ i} {Φ : EK} : varS (some (.val d)) ρ i Φ = Φ d ρ := rfl
theorem q_vs_l {ds ρ i} {Φ : EK} : varS (some (.lst ds)) ρ i Φ = Φ (.lst ds) (ρ.set i (.val (.lst ds))) := rfl
theorem q_e_v {sm i} {ρ} {Φ : EK} {Ψ : XKn} : wpE sm (.v i) ρ Φ Ψ = (varS ρ[i]? ρ i Φ) := rfl
theorem q_e_k {sm d} {ρ} {Φ : EK} {Ψ : XKn} : wpE sm (.k d) ρ Φ Ψ = (Φ d ρ) := rfl
theorem q_e_g {sm n} {ρ} {Φ : EK} {Ψ : XKn} : wpE sm (.g n) ρ Φ Ψ = (∃ d, sm.cn[n]? = some d ∧ Φ d ρ) := rfl
theorem q_e_bin {sm p a b} {ρ} {Φ : EK} {Ψ : XKn} : wpE sm (.bin p a b) ρ Φ Ψ = (opE a (wpE sm a) ρ (fun oa ρ1 => opE b (wpE sm b) ρ1 (fun ob ρ2 => odP ρ2 oa fun x => odP ρ2 ob fun y => binP p x y fun d => Φ d ρ2) Ψ) Ψ) := rfl
theorem q_e_neg {sm a} {ρ} {Φ : EK} {Ψ : XKn} : wpE sm (.neg a) ρ Φ Ψ = (wpE sm a ρ (fun d ρ' => ∃ i, d = .int i ∧ Φ (.int (-i)) ρ') Ψ) := rfl
theorem q_e_cmp {sm p a b} {ρ} {Φ : EK} {Ψ : XKn} : wpE sm (.cmp p a b) ρ Φ Ψ = (opE a (wpE sm a) ρ (fun oa ρ1 => opE b (wpE sm b) ρ1 (fun ob ρ2 => odP ρ2 oa fun x => odP ρ2 ob fun y => cmpP p x y fun c => Φ (.bl c) ρ2) Ψ) Ψ) := rfl
theorem q_e_cmp2 {sm p q a b c} {ρ} {Φ : EK} {Ψ : XKn} : wpE sm (.cmp2 p q a b c) ρ Φ Ψ = (wpE sm a ρ (fun da ρ1 => wpE sm b ρ1 (fun db ρ2 => cmpP p da db (fun k => if k = true then wpE sm c ρ2 (fun dc ρ3 => cmpP q db dc (fun k1 => Φ (.bl k1) ρ3)) Ψ else Φ (.bl false) ρ2)) Ψ) Ψ) := rfl
theorem q_e_and {sm a b} {ρ} {Φ : EK} {Ψ : XKn} : wpE sm (.and a b) ρ Φ Ψ = (wpE sm a ρ (fun d ρ' => ∃ c, d = .bl c ∧ if c = true then wpE sm b ρ' (fun d' ρ'' => ∃ c', d' = .bl c' ∧ Φ (.bl c') ρ'') Ψ else Φ (.bl false) ρ') Ψ) := rfl
theorem q_e_or {sm a b} {ρ} {Φ : EK} {Ψ : XKn} : wpE sm (.or a b) ρ Φ Ψ = (wpE sm a ρ (fun d ρ' => ∃ c, d = .bl c ∧ if c = true then Φ (.bl true) ρ' else wpE sm b ρ' (fun d' ρ'' => ∃ c', d' = .bl c' ∧ Φ (.bl c') ρ'') Ψ) Ψ) := rfl
theorem q_e_not {sm a} {ρ} {Φ : EK} {Ψ : XKn} : wpE sm (.not a) ρ Φ Ψ = (wpE sm a ρ (fun d ρ' => ∃ c, d = .bl c ∧ Φ (.bl (!c)) ρ') Ψ) := rfl
theorem q_e_ite {sm c a b} {ρ} {Φ : EK} {Ψ : XKn} : wpE sm (.ite c a b) ρ Φ Ψ = (wpE sm c ρ (fun d ρ' => ∃ k, d = .bl k ∧ if k = true then wpE sm a ρ' Φ Ψ else wpE sm b ρ' Φ Ψ) Ψ) := rfl
theorem q_e_tup {sm es} {ρ} {Φ : EK} {Ψ : XKn} : wpE sm (.tup es) ρ Φ Ψ = (wpEs sm es ρ (fun ds ρ' => ds.length ≤ line ∧ Φ (.tup ds) ρ') Ψ) := rfl
theorem q_e_lst {sm es} {ρ} {Φ : EK} {Ψ : XKn} : wpE sm (.lst es) ρ Φ Ψ = (wpEs sm es ρ (fun ds ρ' => ds.length ≤ line ∧ Φ (.lst ds) ρ') Ψ) := rfl
theorem q_e_ix {sm a i} {ρ} {Φ : EK} {Ψ : XKn} : wpE sm (.ix a i) ρ Φ Ψ = (opE a (wpE sm a) ρ (fun oa ρ1 => wpE sm i ρ1 (fun di ρ2 => odP ρ2 oa fun x => ixP x di fun d => Φ d ρ2) Ψ) Ψ) := rfl
theorem q_e_sl {sm a lo hi} {ρ} {Φ : EK} {Ψ : XKn} : wpE sm (.sl a lo hi) ρ Φ Ψ = (opE a (wpE sm a) ρ (fun oa ρ1 => wpOe sm lo ρ1 (fun l ρ2 => wpOe sm hi ρ2 (fun h ρ3 => odP ρ3 oa fun x => slP x l h fun d => Φ d ρ3) Ψ) Ψ) Ψ) := rfl
theorem q_e_call {sm n es} {ρ} {Φ : EK} {Ψ : XKn} : wpE sm (.call n es) ρ Φ Ψ = (wpEs sm es ρ (fun ds ρ' => ∃ sp, sm.fn[n]? = some sp ∧ ds.length = sp.ar ∧ ∃ g, sp.pre g ds ∧ (∀ d, sp.ret g d → Φ d ρ') ∧ ∀ c, sp.exc g c → Ψ c ρ') Ψ) := rfl
theorem q_e_bi {sm f es} {ρ} {Φ : EK} {Ψ : XKn} : wpE sm (.bi f es) ρ Φ Ψ = (wpOs sm es ρ (fun os ρ' => odsP ρ' os fun ds => biP f ds fun d => Φ d ρ') Ψ) := rfl
theorem q_e_mt {sm m a es} {ρ} {Φ : EK} {Ψ : XKn} : wpE sm (.mt m a es) ρ Φ Ψ = (wpE sm a ρ (fun d ρ1 => isStrD d = true ∧ wpOs sm es ρ1 (fun os ρ' => odsP ρ' os fun ds => mtP m d ds fun d' => Φ d' ρ') Ψ) Ψ) := rfl
theorem q_e_dic {sm a b} {ρ} {Φ : EK} {Ψ : XKn} : wpE sm (.dic a b) ρ Φ Ψ = (wpE sm a ρ (fun dk ρ1 => wpE sm b ρ1 (fun dv ρ2 => isStrD dk = true ∧ Φ (.dct [dk] [dv]) ρ2) Ψ) Ψ) := rfl
theorem q_e_dce {sm } {ρ} {Φ : EK} {Ψ : XKn} : wpE sm (.dce ) ρ Φ Ψ = (Φ (.dct [] []) ρ) := rfl
theorem q_e_lrng {sm a} {ρ} {Φ : EK} {Ψ : XKn} : wpE sm (.lrng a) ρ Φ Ψ = (wpE sm a ρ (fun d ρ' => ∃ i, d = .int i ∧ 0 ≤ i ∧ i ≤ line ∧ Φ (.lst (rngD 0 i)) ρ') Ψ) := rfl
theorem q_e_ise {sm i cs} {ρ} {Φ : EK} {Ψ : XKn} : wpE sm (.ise i cs) ρ Φ Ψ = (∃ a n, sm.exc = some (a, n) ∧ ρ[i]? = some (.exc a) ∧ Φ (.bl (cs.any fun m => subX n m)) ρ) := rfl
theorem q_es_n {sm ρ} {Φ : List D → Env → Prop} {Ψ : XKn} : wpEs sm .nil ρ Φ Ψ = Φ [] ρ := rfl
theorem q_es_c {sm e es ρ} {Φ : List D → Env → Prop} {Ψ : XKn} : wpEs sm (.cons e es) ρ Φ Ψ = wpE sm e ρ (fun d ρ' => wpEs sm es ρ' (fun ds ρ'' => Φ (d :: ds) ρ'') Ψ) Ψ := rfl
theorem q_os_n {sm ρ} {Φ : List Od → Env → Prop} {Ψ : XKn} : wpOs sm .nil ρ Φ Ψ = Φ [] ρ := rfl
theorem q_os_c {sm e es ρ} {Φ : List Od → Env → Prop} {Ψ : XKn} : wpOs sm (.cons e es) ρ Φ Ψ = opE e (wpE sm e) ρ (fun d ρ' => wpOs sm es ρ' (fun ds ρ'' => Φ (d :: ds) ρ'') Ψ) Ψ := rfl
theorem q_oe_n {sm ρ} {Φ : Option Int → Env → Prop} {Ψ : XKn} : wpOe sm .none ρ Φ Ψ = Φ none ρ := rfl
theorem q_oe_s {sm e ρ} {Φ : Option Int → Env → Prop} {Ψ : XKn} : wpOe sm (.some e) ρ Φ Ψ = wpE sm e ρ (fun d ρ' => ∃ i, d = .int i ∧ Φ (some i) ρ') Ψ := rfl
theorem q_if_n {sm ρ} {Φ : Bool → Env → Prop} {Ψ : XKn} : wpIf sm .none ρ Φ Ψ = Φ true ρ := rfl
theorem q_if_s {sm e ρ} {Φ : Bool → Env → Prop} {Ψ : XKn} : wpIf sm (.some e) ρ Φ Ψ = wpE sm e ρ (fun d ρ' => ∃ c, d = .bl c ∧ Φ c ρ') Ψ := rfl
theorem q_it_of {sm e ρ} {Φ : List D → Env → Prop} {Ψ : XKn} : wpIt sm (.of e) ρ Φ Ψ = wpE sm e ρ (fun d ρ' => ∃ ds, itemsD d = some ds ∧ Φ ds ρ') Ψ := rfl
theorem q_it_r1 {sm a ρ} {Φ : List D → Env → Prop} {Ψ : XKn} : wpIt sm (.rng1 a) ρ Φ Ψ = wpE sm a ρ (fun d ρ' => ∃ i, d = .int i ∧ Rg i ∧ Φ (rngD 0 i) ρ') Ψ := rfl
theorem q_it_r2 {sm a b ρ} {Φ : List D → Env → Prop} {Ψ : XKn} : wpIt sm (.rng2 a b) ρ Φ Ψ = wpE sm a ρ (fun d ρ1 => wpE sm b ρ1 (fun d' ρ' => ∃ i j, d = .int i ∧ d' = .int j ∧ Rg i ∧ Rg j ∧ Φ (rngD i j) ρ') Ψ) Ψ := rfl
theorem q_it_en {sm a ρ} {Φ : List D → Env → Prop} {Ψ : XKn} : wpIt sm (.enum a) ρ Φ Ψ = wpE sm a ρ (fun d ρ' => ∃ ds, itemsD d = some ds ∧ notTupD d = true ∧ Φ (enumD 0 ds) ρ') Ψ := rfl
theorem q_it_z2 {sm a b ρ} {Φ : List D → Env → Prop} {Ψ : XKn} : wpIt sm (.zip2 a b) ρ Φ Ψ = wpE sm a ρ (fun d ρ1 => wpE sm b ρ1 (fun d' ρ' => ∃ x y, itemsD d = some x ∧ itemsD d' = some y ∧ Φ (zip2D x y) ρ') Ψ) Ψ := rfl
theorem q_it_z3 {sm a b c ρ} {Φ : List D → Env → Prop} {Ψ : XKn} : wpIt sm (.zip3 a b c) ρ Φ Ψ = wpE sm a ρ (fun d ρ1 => wpE sm b ρ1 (fun d' ρ2 => wpE sm c ρ2 (fun d'' ρ' => ∃ x y z, itemsD d = some x ∧ itemsD d' = some y ∧ itemsD d'' = some z ∧ Φ (zip3D x y z) ρ') Ψ) Ψ) Ψ := rfl
theorem q_nt_l {s} : notTupD (.lst s) = true := rfl
theorem q_nt_s {s} : notTupD (.str s) = true := rfl
theorem q_im_s {s} : itemsD (.str s) = some (s.map fun c => .str [c]) := rfl
theorem q_im_l {s} : itemsD (.lst s) = some s := rfl
theorem q_im_t {s} : itemsD (.tup s) = some s := rfl
theorem q_s_set {sm i e} {ρ} {P : Pt} : wpS sm (.set i e) ρ P = (wpE sm e ρ (fun d ρ' => P.nx (ρ'.set i (.val d))) P.xc) := rfl
theorem q_s_new {sm i e} {ρ} {P : Pt} : wpS sm (.new i e) ρ P = (wpE sm e ρ (fun d ρ' => ∃ ds, d = .lst ds ∧ i < ρ'.length ∧ P.nx (ρ'.set i (.lst ds))) P.xc) := rfl
theorem q_s_unp {sm is e} {ρ} {P : Pt} : wpS sm (.unp is e) ρ P = (wpE sm e ρ (fun d ρ' => tgP (.xs is) d ρ' P.nx) P.xc) := rfl
theorem q_s_app {sm i e} {ρ} {P : Pt} : wpS sm (.app i e) ρ P = (isLstS ρ[i]? = true ∧ wpE sm e ρ (fun d ρ' => ∃ ds, ρ'[i]? = some (.lst ds) ∧ ds.length < line ∧ P.nx (ρ'.set i (.lst (ds ++ [d])))) P.xc) := rfl
theorem q_s_seti {sm i k e} {ρ} {P : Pt} : wpS sm (.seti i k e) ρ P = (wpE sm e ρ (fun d ρ1 => isLstS ρ1[i]? = true ∧ wpE sm k ρ1 (fun dk ρ' => ∃ ds n j, dk = .int n ∧ ρ'[i]? = some (.lst ds) ∧ ixN ds.length n = some j ∧ P.nx (ρ'.set i (.lst (ds.set j d)))) P.xc) P.xc) := rfl
theorem q_s_ret {sm e} {ρ} {P : Pt} : wpS sm (.ret e) ρ P = (wpE sm e ρ P.rt P.xc) := rfl
theorem q_s_retn {sm} {ρ} {P : Pt} : wpS sm .retn ρ P = P.rt .non ρ := rfl
theorem q_s_ife {sm c a b} {ρ} {P : Pt} : wpS sm (.ife c a b) ρ P = (wpE sm c ρ (fun d ρ' => ∃ k, d = .bl k ∧ if k = true then wpSs sm a ρ' P else wpSs sm b ρ' P) P.xc) := rfl
theorem q_s_ex {sm e} {ρ} {P : Pt} : wpS sm (.ex e) ρ P = (wpE sm e ρ (fun _ ρ' => P.nx ρ') P.xc) := rfl
theorem q_s_pas {sm} {ρ} {P : Pt} : wpS sm .pas ρ P = P.nx ρ := rfl
theorem q_s_brk {sm} {ρ} {P : Pt} : wpS sm .brk ρ P = P.bk ρ := rfl
theorem q_s_cnt {sm} {ρ} {P : Pt} : wpS sm .cnt ρ P = P.ct ρ := rfl
theorem q_s_rse {sm n ρ} {P : Pt} : wpS sm (.rse n) ρ P = P.xc n ρ := rfl
-- what a try wishes of an error of its body
def triX (sm : Sm) (m : Nat) (nm : Option Nat) (h : Ss) (P : Pt) : XKn := fun c ρ' => c ∈ sm.xr ∧ if subX c m = true then (∀ a, match nm with
    | none => wpSs { sm with exc := none } h ρ' { P with xc := fun _ _ => False }
    | some i => wpSs { sm with exc := some (a, c) } h (ρ'.set i (.exc a)) { nx := fun ρ2 => P.nx (ρ2.set i .no), rt := P.rt, bk := fun ρ2 => P.bk (ρ2.set i .no), ct := fun ρ2 => P.ct (ρ2.set i .no), xc := fun _ _ => False }) else P.xc c ρ'
theorem triX_n {sm m h P c ρ'} : triX sm m none h P c ρ' = (c ∈ sm.xr ∧ if subX c m = true then (∀ _ : Nat, wpSs { sm with exc := none } h ρ' { P with xc := fun _ _ => False }) else P.xc c ρ') := rfl
theorem triX_s {sm m i h P c ρ'} : triX sm m (some i) h P c ρ' = (c ∈ sm.xr ∧ if subX c m = true then (∀ a : Nat, wpSs { sm with exc := some (a, c) } h (ρ'.set i (.exc a)) { nx := fun ρ2 => P.nx (ρ2.set i .no), rt := P.rt, bk := fun ρ2 => P.bk (ρ2.set i .no), ct := fun ρ2 => P.ct (ρ2.set i .no), xc := fun _ _ => False }) else P.xc c ρ') := rfl
theorem q_s_tri {sm b m nm h ρ} {P : Pt} : wpS sm (.tri b m nm h) ρ P = wpSs sm b ρ { P with xc := triX sm m nm h P } := rfl
theorem q_ss_n {sm ρ} {P : Pt} : wpSs sm .nil ρ P = P.nx ρ := rfl
theorem q_ss_c {sm s r ρ} {P : Pt} : wpSs sm (.cons s r) ρ P = wpS sm s ρ { P with nx := fun ρ' => wpSs sm r ρ' P } := rfl
theorem q_tg_x {i d ρ P} : tgP (.x i) d ρ P = P (ρ.set i (.val d)) := rfl
theorem q_tg_xs {is ds ρ P} : tgP (.xs is) (.tup ds) ρ P = ∃ ρ', setsT ρ is ds = some ρ' ∧ P ρ' := rfl
theorem q_st_n {ρ} : setsT ρ [] [] = some ρ := rfl
theorem q_st_c {ρ i is d ds} : setsT ρ (i :: is) (d :: ds) = setsT (ρ.set i (.val d)) is ds := rfl
theorem q_b_add_i {a b} {P : D → Prop} : binP .add (.int a) (.int b) P = (P (.int (a + b))) := rfl
theorem q_b_add_s {a b} {P : D → Prop} : binP .add (.str a) (.str b) P = (a.length + b.length ≤ line ∧ P (.str (a ++ b))) := rfl
theorem q_b_add_l {a b} {P : D → Prop} : binP .add (.lst a) (.lst b) P = (a.length + b.length ≤ line ∧ P (.lst (a ++ b))) := rfl
theorem q_b_add_t {a b} {P : D → Prop} : binP .add (.tup a) (.tup b) P = (a.length + b.length ≤ line ∧ P (.tup (a ++ b))) := rfl
theorem q_b_sub_i {a b} {P : D → Prop} : binP .sub (.int a) (.int b) P = (P (.int (a - b))) := rfl
theorem q_b_mul_i {a b} {P : D → Prop} : binP .mul (.int a) (.int b) P = (MulOk a b ∧ P (.int (a * b))) := rfl
theorem q_b_mul_s {a b} {P : D → Prop} : binP .mul (.str a) (.int b) P = (0 ≤ b ∧ b ≤ 1000 ∧ a.length ≤ 1000 ∧ P (.str (rep a b))) := rfl
theorem q_b_fdiv_i {a b} {P : D → Prop} : binP .fdiv (.int a) (.int b) P = (DivOk b ∧ P (.int (a / b))) := rfl
theorem q_b_mod_i {a b} {P : D → Prop} : binP .mod (.int a) (.int b) P = (0 < b ∧ P (.int (a % b))) := rfl
theorem q_b_pow_i {a b} {P : D → Prop} : binP .pow (.int a) (.int b) P = (PowOk a b ∧ P (.int (a ^ b.toNat))) := rfl
theorem q_c_eq_a {a b} {P : Bool → Prop} : cmpP .eq a b P = (okN 40 a = true ∧ okN 40 b = true ∧ P (eqD a b)) := rfl
theorem q_c_ne_a {a b} {P : Bool → Prop} : cmpP .ne a b P = (okN 40 a = true ∧ okN 40 b = true ∧ P (!eqD a b)) := rfl
theorem q_c_lt_i {a b} {P : Bool → Prop} : cmpP .lt (.int a) (.int b) P = (P (decide (a < b))) := rfl
theorem q_c_le_i {a b} {P : Bool → Prop} : cmpP .le (.int a) (.int b) P = (P (decide (a ≤ b))) := rfl
theorem q_c_gt_i {a b} {P : Bool → Prop} : cmpP .gt (.int a) (.int b) P = (P (decide (b < a))) := rfl
theorem q_c_ge_i {a b} {P : Bool → Prop} : cmpP .ge (.int a) (.int b) P = (P (decide (b ≤ a))) := rfl
theorem q_c_is_b {a b} {P : Bool → Prop} : cmpP .is (.bl a) (.bl b) P = (P (decide (a = b))) := rfl
theorem q_c_isn_b {a b} {P : Bool → Prop} : cmpP .isn (.bl a) (.bl b) P = (P (!decide (a = b))) := rfl
theorem q_c_in__s {a b} {P : Bool → Prop} : cmpP .in_ (.str a) (.str b) P = (P (inS a b)) := rfl
theorem q_c_nin_s {a b} {P : Bool → Prop} : cmpP .nin (.str a) (.str b) P = (P (!inS a b)) := rfl
theorem q_c_in__t_int {x b} {P : Bool → Prop} : cmpP .in_ (.int x) (.tup b) P = (flatD (.int x) = true ∧ b.all flatD = true ∧ P (b.any fun d => eqD d (.int x))) := rfl
theorem q_c_nin_t_int {x b} {P : Bool → Prop} : cmpP .nin (.int x) (.tup b) P = (flatD (.int x) = true ∧ b.all flatD = true ∧ P (!b.any fun d => eqD d (.int x))) := rfl
theorem q_c_in__t_str {x b} {P : Bool → Prop} : cmpP .in_ (.str x) (.tup b) P = (flatD (.str x) = true ∧ b.all flatD = true ∧ P (b.any fun d => eqD d (.str x))) := rfl
theorem q_c_nin_t_str {x b} {P : Bool → Prop} : cmpP .nin (.str x) (.tup b) P = (flatD (.str x) = true ∧ b.all flatD = true ∧ P (!b.any fun d => eqD d (.str x))) := rfl
theorem q_c_in__t_bl {x b} {P : Bool → Prop} : cmpP .in_ (.bl x) (.tup b) P = (flatD (.bl x) = true ∧ b.all flatD = true ∧ P (b.any fun d => eqD d (.bl x))) := rfl
theorem q_c_nin_t_bl {x b} {P : Bool → Prop} : cmpP .nin (.bl x) (.tup b) P = (flatD (.bl x) = true ∧ b.all flatD = true ∧ P (!b.any fun d => eqD d (.bl x))) := rfl
theorem q_c_is_n {x} {P : Bool → Prop} : cmpP .is x .non P = P (isNonD x) := by cases x <;> rfl
theorem q_c_isn_n {x} {P : Bool → Prop} : cmpP .isn x .non P = P (!isNonD x) := by cases x <;> rfl
theorem q_c_in__l {x b} {P : Bool → Prop} : cmpP .in_ x (.lst b) P = (okN 40 x = true ∧ b.all (okN 40) = true ∧ P (b.any fun d => eqD d x)) := by cases x <;> rfl
theorem q_c_nin_l {x b} {P : Bool → Prop} : cmpP .nin x (.lst b) P = (okN 40 x = true ∧ b.all (okN 40) = true ∧ P (!b.any fun d => eqD d x)) := by cases x <;> rfl
theorem q_nn_non  : isNonD (.non ) = true := rfl
theorem q_nn_bl {b} : isNonD (.bl b) = false := rfl
theorem q_nn_int {i} : isNonD (.int i) = false := rfl
theorem q_nn_str {s} : isNonD (.str s) = false := rfl
theorem q_nn_tup {s} : isNonD (.tup s) = false := rfl
theorem q_nn_lst {s} : isNonD (.lst s) = false := rfl
theorem q_nn_dct {k v} : isNonD (.dct k v) = false := rfl
theorem q_i_s {a i} {P : D → Prop} : ixP (.str a) (.int i) P = (a.length ≤ line ∧ ∃ c, atI a i = some c ∧ P (.str [c])) := rfl
theorem q_i_l {a i} {P : D → Prop} : ixP (.lst a) (.int i) P = (∃ d, atI a i = some d ∧ P d) := rfl
theorem q_i_t {a i} {P : D → Prop} : ixP (.tup a) (.int i) P = (∃ d, atI a i = some d ∧ P d) := rfl
theorem q_sl_s {a lo hi} {P : D → Prop} : slP (.str a) lo hi P = (a.length ≤ line ∧ P (.str (cut a lo hi))) := rfl
theorem q_sl_l {a lo hi} {P : D → Prop} : slP (.lst a) lo hi P = (P (.lst (cut a lo hi))) := rfl
theorem q_sl_t {a lo hi} {P : D → Prop} : slP (.tup a) lo hi P = (P (.tup (cut a lo hi))) := rfl
theorem q_f_len_s {a} {P : D → Prop} : biP .len [.str a] P = (a.length ≤ line ∧ P (.int a.length)) := rfl
theorem q_f_len_l {a} {P : D → Prop} : biP .len [.lst a] P = (P (.int a.length)) := rfl
theorem q_f_len_t {a} {P : D → Prop} : biP .len [.tup a] P = (P (.int a.length)) := rfl
theorem q_f_abs {a} {P : D → Prop} : biP .abs [.int a] P = (P (.int (if a < 0 then -a else a))) := rfl
theorem q_f_int_i {a} {P : D → Prop} : biP .int [.int a] P = (P (.int a)) := rfl
theorem q_f_int_b {a} {P : D → Prop} : biP .int [.bl a] P = (P (.int (if a then 1 else 0))) := rfl
theorem q_f_str {a} {P : D → Prop} : biP .str [.int a] P = (a.natAbs < 2 ^ 256 ∧ P (.str (toStr a))) := rfl
theorem q_f_list_l {a} {P : D → Prop} : biP .list [.lst a] P = (P (.lst a)) := rfl
theorem q_f_list_t {a} {P : D → Prop} : biP .list [.tup a] P = (P (.lst a)) := rfl
theorem q_f_tup_l {a} {P : D → Prop} : biP .tuple [.lst a] P = (P (.tup a)) := rfl
theorem q_f_tup_t {a} {P : D → Prop} : biP .tuple [.tup a] P = (P (.tup a)) := rfl
theorem q_f_sum {a} {P : D → Prop} : biP .sum [.lst a] P = (∃ ns, intsD a = some ns ∧ P (.int ns.sum)) := rfl
theorem q_f_all {a} {P : D → Prop} : biP .all [.lst a] P = (∃ bs, boolsD a = some bs ∧ P (.bl (bs.all id))) := rfl
theorem q_f_any {a} {P : D → Prop} : biP .any [.lst a] P = (∃ bs, boolsD a = some bs ∧ P (.bl (bs.any id))) := rfl
theorem q_f_max2 {a b} {P : D → Prop} : biP .max2 [.int a, .int b] P = (P (.int (if b > a then b else a))) := rfl
theorem q_f_min2 {a b} {P : D → Prop} : biP .min2 [.int a, .int b] P = (P (.int (if b < a then b else a))) := rfl
theorem q_f_maxl {a} {P : D → Prop} : biP .maxl [.lst a] P = (∃ ns, intsD a = some ns ∧ ns ≠ [] ∧ ∀ m, m ∈ ns → (∀ a ∈ ns, a ≤ m) → P (.int m)) := rfl
theorem q_f_minl {a} {P : D → Prop} : biP .minl [.lst a] P = (∃ ns, intsD a = some ns ∧ ns ≠ [] ∧ ∀ m, m ∈ ns → (∀ a ∈ ns, m ≤ a) → P (.int m)) := rfl
theorem q_f_isi {t d} {P : D → Prop} : biP (.isi t) [d] P = (noIns d = true ∧ P (.bl (isiD t d))) := rfl
theorem q_m_join {s ds} {P : D → Prop} : mtP .join (.str s) [.lst ds] P = (∃ ys, strs? ds = some ys ∧ (ys.map List.length).sum + ys.length * s.length ≤ line ∧ P (.str (Txt.join (St s) (ys.map St)).cps.toList)) := rfl
theorem q_m_upper {s} {P : D → Prop} : mtP .upper (.str s) [] P = (s.length ≤ 5592405 ∧ s.all (· < 128) = true ∧ P (.str (s.map PyProof.Rows.up1))) := rfl
theorem q_m_lower {s} {P : D → Prop} : mtP .lower (.str s) [] P = (s.length ≤ 5592405 ∧ P (.str (Txt.lower (St s)).cps.toList)) := rfl
theorem q_m_islower {s} {P : D → Prop} : mtP .islower (.str s) [] P = P (.bl (Txt.islower (St s))) := rfl
theorem q_m_isupper {s} {P : D → Prop} : mtP .isupper (.str s) [] P = P (.bl (Txt.isupper (St s))) := rfl
theorem q_m_isdigit {s} {P : D → Prop} : mtP .isdigit (.str s) [] P = P (.bl (Txt.isdigit (St s))) := rfl
theorem q_m_isalnum {s} {P : D → Prop} : mtP .isalnum (.str s) [] P = P (.bl (Txt.isalnum (St s))) := rfl
theorem q_m_split {s b} {P : D → Prop} : mtP .split (.str s) [.str b] P = (b ≠ [] ∧ s.length + 2 ≤ line ∧ P (.lst ((Txt.split (St s) (St b)).map fun x => .str x.cps.toList))) := rfl
theorem q_isstr {s} : isStrD (.str s) = true := rfl
theorem q_ni_non  : noIns (.non ) = true := rfl
theorem q_is_str_non  : isiD .str (.non ) = false := rfl
theorem q_is_tuple_non  : isiD .tuple (.non ) = false := rfl
theorem q_is_int_non  : isiD .int (.non ) = false := rfl
theorem q_is_bool_non  : isiD .bool (.non ) = false := rfl
theorem q_is_list_non  : isiD .list (.non ) = false := rfl
theorem q_ni_bl {b} : noIns (.bl b) = true := rfl
theorem q_is_str_bl {b} : isiD .str (.bl b) = false := rfl
theorem q_is_tuple_bl {b} : isiD .tuple (.bl b) = false := rfl
theorem q_is_int_bl {b} : isiD .int (.bl b) = true := rfl
theorem q_is_bool_bl {b} : isiD .bool (.bl b) = true := rfl
theorem q_is_list_bl {b} : isiD .list (.bl b) = false := rfl
theorem q_ni_int {i} : noIns (.int i) = true := rfl
theorem q_is_str_int {i} : isiD .str (.int i) = false := rfl
theorem q_is_tuple_int {i} : isiD .tuple (.int i) = false := rfl
theorem q_is_int_int {i} : isiD .int (.int i) = true := rfl
theorem q_is_bool_int {i} : isiD .bool (.int i) = false := rfl
theorem q_is_list_int {i} : isiD .list (.int i) = false := rfl
theorem q_ni_str {s} : noIns (.str s) = true := rfl
theorem q_is_str_str {s} : isiD .str (.str s) = true := rfl
theorem q_is_tuple_str {s} : isiD .tuple (.str s) = false := rfl
theorem q_is_int_str {s} : isiD .int (.str s) = false := rfl
theorem q_is_bool_str {s} : isiD .bool (.str s) = false := rfl
theorem q_is_list_str {s} : isiD .list (.str s) = false := rfl
theorem q_ni_tup {s} : noIns (.tup s) = true := rfl
theorem q_is_str_tup {s} : isiD .str (.tup s) = false := rfl
theorem q_is_tuple_tup {s} : isiD .tuple (.tup s) = true := rfl
theorem q_is_int_tup {s} : isiD .int (.tup s) = false := rfl
theorem q_is_bool_tup {s} : isiD .bool (.tup s) = false := rfl
theorem q_is_list_tup {s} : isiD .list (.tup s) = false := rfl
theorem q_ni_lst {s} : noIns (.lst s) = true := rfl
theorem q_is_str_lst {s} : isiD .str (.lst s) = false := rfl
theorem q_is_tuple_lst {s} : isiD .tuple (.lst s) = false := rfl
theorem q_is_int_lst {s} : isiD .int (.lst s) = false := rfl
theorem q_is_bool_lst {s} : isiD .bool (.lst s) = false := rfl
theorem q_is_list_lst {s} : isiD .list (.lst s) = true := rfl
theorem q_ni_dct {k v} : noIns (.dct k v) = true := rfl
theorem q_is_str_dct {k v} : isiD .str (.dct k v) = false := rfl
theorem q_is_tuple_dct {k v} : isiD .tuple (.dct k v) = false := rfl
theorem q_is_int_dct {k v} : isiD .int (.dct k v) = false := rfl
theorem q_is_bool_dct {k v} : isiD .bool (.dct k v) = false := rfl
theorem q_is_list_dct {k v} : isiD .list (.dct k v) = false := rfl
end Ts
set_option Elab.async false
set_option linter.all false
set_option maxRecDepth 100000
/-! Ts, nineteenth part: loops and comprehensions by hand; numbers. -/
namespace Ts
open PySem L2
/-- what a walk wants -/
def forW (sm : Sm) (tg : Tg) (b : Ss) (P : Pt) (ds : List D) (ρ1 : Env) : Prop := ∃ I : Nat → Env → Prop, I 0 ρ1 ∧
  (∀ i d ρ, ds[i]? = some d → I i ρ → tgP tg d ρ fun ρ2 => wpSs sm b ρ2 { nx := I (i + 1), rt := P.rt, bk := P.nx, ct := I (i + 1), xc := P.xc }) ∧ ∀ ρ, I ds.length ρ → P.nx ρ
theorem q_s_for {sm tg it b} {ρ} {P : Pt} : wpS sm (.for_ tg it b) ρ P = wpIt sm it ρ (fun ds ρ1 => forW sm tg b P ds ρ1) P.xc := rfl
theorem for_in {sm : Sm} {tg : Tg} {b : Ss} {P : Pt} {ds : List D} {ρ1 : Env} (I : Nat → Env → Prop) (h0 : I 0 ρ1) (hs : ∀ i d ρ, ds[i]? = some d → I i ρ → tgP tg d ρ fun ρ2 => wpSs sm b ρ2 { nx := I (i + 1), rt := P.rt, bk := P.nx, ct := I (i + 1), xc := P.xc })
    (hd : ∀ ρ, I ds.length ρ → P.nx ρ) : forW sm tg b P ds ρ1 := ⟨I, h0, hs, hd⟩
def whlW (sm : Sm) (c : E) (b : Ss) (P : Pt) (ρ : Env) : Prop := ∃ I : Nat → Env → Prop, (∃ m, I m ρ) ∧ ∀ m ρ, I m ρ → wpE sm c ρ (fun d ρ' => ∃ k, d = .bl k ∧
      if k = true then wpSs sm b ρ' { nx := fun ρ2 => ∃ m', m' < m ∧ I m' ρ2, rt := P.rt, bk := P.nx, ct := fun ρ2 => ∃ m', m' < m ∧ I m' ρ2, xc := P.xc } else P.nx ρ') P.xc
theorem q_s_whl {sm c b} {ρ} {P : Pt} : wpS sm (.whl c b) ρ P = whlW sm c b P ρ := rfl
/-- what a comprehension wants -/
def lcW (sm : Sm) (own : List Nat) (tg : Tg) (c : Oe) (e : E) (Φ : EK) (ds : List D) (ρ1 : Env) : Prop := ds.length ≤ line ∧ wipeOk ρ1 own = true ∧ ∃ R : D → Option D → Prop, (∀ d ∈ ds, tgP tg d (wipeE ρ1 own) fun ρ2 =>
        wpIf sm c ρ2 (fun k ρ3 => ρ3 = ρ2 ∧ if k = true then wpE sm e ρ3 (fun d' ρ4 => ρ4 = ρ3 ∧ R d (some d')) (fun _ _ => False) else R d none) (fun _ _ => False)) ∧
      ∀ es, Fm R ds es → Φ (.lst es) ρ1
theorem q_e_lc {sm own it tg c e} {ρ} {Φ : EK} {Ψ : XKn} : wpE sm (.lc own it tg c e) ρ Φ Ψ = wpIt sm it ρ (fun ds ρ1 => lcW sm own tg c e Φ ds ρ1) Ψ := rfl
/-- every item is turned, none left out: each comes to stand as R says -/
theorem lc_all {sm : Sm} {own : List Nat} {tg : Tg} {e : E} {Φ : EK} {ds : List D} {ρ1 : Env} (R : D → D → Prop) (hl : ds.length ≤ line) (hw : wipeOk ρ1 own = true)
    (hs : ∀ d ∈ ds, tgP tg d (wipeE ρ1 own) fun ρ2 => wpE sm e ρ2 (fun d' ρ4 => ρ4 = ρ2 ∧ R d d') (fun _ _ => False))
    (hd : ∀ es, es.length = ds.length → (∀ (i : Nat) d x, ds[i]? = some d → es[i]? = some x → R d x) → Φ (.lst es) ρ1) : lcW sm own tg .none e Φ ds ρ1 := by
  refine ⟨hl, hw, fun d o => ∃ x, o = some x ∧ R d x, fun d hd' => ?_, fun es f => hd es ?_ ?_⟩
  · have q := hs d hd'
    have go : ∀ {Q Q' : Env → Prop}, (∀ ρ, Q ρ → Q' ρ) → tgP tg d (wipeE ρ1 own) Q → tgP tg d (wipeE ρ1 own) Q' := by
      intro Q Q' m h
      cases tg with
      | x i => exact m _ h
      | xs is =>
        cases d with
        | tup xs => obtain ⟨ρ', e, h⟩ := h; exact ⟨ρ', e, m _ h⟩
        | _ => exact False.elim h
    refine go (fun ρ h => ?_) q
    show ρ = ρ ∧ if true = true then _ else _
    refine ⟨rfl, ?_⟩
    rw [if_pos rfl]
    simpa using h
  · clear hd hs hl
    induction f with
    | nil => rfl
    | skip h _ _ => obtain ⟨x, z, _⟩ := h; cases z
    | keep h _ ih => simp [ih]
  · clear hd hs hl
    induction f with
    | nil => intro i d x h; simp at h
    | skip h _ _ => obtain ⟨x, z, _⟩ := h; cases z
    | keep h _ ih =>
      intro i d x h1 h2
      obtain ⟨y, ey, r⟩ := h
      cases ey
      cases i with
      | zero => simp at h1 h2; subst h1 h2; exact r
      | succ i => exact ih i d x (by simpa using h1) (by simpa using h2)
open Builtin.Int in
theorem bits_nat {x : Int} {m : Nat} (h0 : 0 ≤ x) (h : x < 2 ^ m) : intBits x ≤ m := intBits_le_iff.mpr (by
  have e : ((x.natAbs : Nat) : Int) = x := Int.natAbs_of_nonneg h0
  have q : ((x.natAbs : Nat) : Int) < ((2 ^ m : Nat) : Int) := by rw [e]; simpa using h
  exact Int.ofNat_lt.mp q)
open Builtin.Int in
theorem mul_ok {a b : Int} {m n : Nat} (ha : intBits a ≤ m) (hb : intBits b ≤ n) (h : m + n ≤ 134217728) : MulOk a b := by unfold MulOk; omega
theorem atI_pos {α : Type} {xs : List α} {i : Int} (h0 : 0 ≤ i) (h : i < xs.length) : ∃ d, atI xs i = some d ∧ xs[i.toNat]? = some d := by
  have hl : i.toNat < xs.length := by omega
  have e : xs[i.toNat]? = some xs[i.toNat] := by simp [hl]
  refine ⟨xs[i.toNat], ?_, e⟩
  have q := L2.atI_nat e
  rwa [show ((i.toNat : Nat) : Int) = i by omega] at q
end Ts
set_option Elab.async false
set_option linter.all false
set_option maxRecDepth 100000
set_option maxHeartbeats 1000000
/-! Lb: what the program's defs and the laws' own are worth; first: data with types, numbers, kinds and places. -/
namespace Lb
open PySem Ts
-- kind_of: N 0=sign; fn ; cn 0=FIGURES 1=GREAT 2=SMALL
def b_kind_of_3 : Ss := .cons (.ret (.k (.str [109, 97, 114, 107]))) .nil
def b_kind_of_2 : Ss := .cons (.ife (.cmp .in_ (.v 0) (.g 0)) (.cons (.ret (.k (.str [102, 105, 103, 117, 114, 101])))
  .nil) .nil) b_kind_of_3
def b_kind_of_1 : Ss := .cons (.ife (.cmp .in_ (.v 0) (.g 1)) (.cons (.ret (.k (.str [103, 114, 101, 97, 116])))
  .nil) .nil) b_kind_of_2
def b_kind_of : Ss := .cons (.ife (.cmp .in_ (.v 0) (.g 2)) (.cons (.ret (.k (.str [115, 109, 97, 108, 108])))
  .nil) .nil) b_kind_of_1
-- standings: N 0=kind 1=text 2=at 3=sign; fn 0=kind_of; cn 
def b_standings_1 : Ss := .cons (.ret (.lc [2, 3] (.enum (.v 1)) (.xs [2, 3]) (.some (.cmp .eq (.call 0 (.cons (.v 3) .nil)) (.v 0))) (.v 2))) .nil
def b_standings : Ss := .cons (.ife (.cmp .eq (.v 0) (.k (.str [97, 110, 121]))) (.cons (.ret (.lrng (.bi .len (.cons (.v 1) .nil))))
  .nil) .nil) b_standings_1
-- spot_by: N 0=stands 1=nth 2=edge; fn ; cn 
def b_spot_by_3 : Ss := .cons (.ret (.ix (.v 0) (.v 1))) .nil
def b_spot_by_2 : Ss := .cons (.ife (.cmp .eq (.v 2) (.k (.str [98, 101, 104, 105, 110, 100]))) (.cons (.ret (.bin .add (.ix (.v 0) (.v 1)) (.k (.int 1))))
  .nil) .nil) b_spot_by_3
def b_spot_by_1 : Ss := .cons (.ife (.cmp .gt (.v 1) (.k (.int 0))) (.cons (.set 1 (.bin .sub (.v 1) (.k (.int 1))))
  .nil) .nil) b_spot_by_2
def b_spot_by : Ss := .cons (.ife (.cmp .lt (.bi .len (.cons (.v 0) .nil)) (.bi .abs (.cons (.v 1) .nil))) (.cons (.ret (.k .non))
  .nil) .nil) b_spot_by_1
-- spot: N 0=place 1=text; fn 0=spot_by 1=standings; cn 
def b_spot : Ss := .cons (.ret (.call 0 (.cons (.call 1 (.cons (.ix (.v 0) (.k (.int 0))) (.cons (.v 1) .nil))) (.cons (.ix (.v 0) (.k (.int 1))) (.cons (.ix (.v 0) (.k (.int 2))) .nil))))) .nil
-- _law_cell: N 0=_law_script 1=_law_k 2=_law_number; fn ; cn 
def b__law_cell_3 : Ss := .cons (.ret (.bin .mod (.bin .mul (.bin .mod (.bin .mul (.v 2) (.v 2)) (.k (.int 2147483629))) (.k (.int 2718281828459045235360287471352662497757))) (.bin .pow (.k (.int 10)) (.k (.int 40))))) .nil
def b__law_cell_2 : Ss := .cons (.ife (.cmp .gt (.bi .len (.cons (.v 0) .nil)) (.k (.int 0))) (.cons (.set 2 (.bin .add (.v 2) (.bin .mul (.bin .mod (.ix (.v 0) (.bin .mod (.bin .mul (.v 1) (.k (.int 7))) (.bi .len (.cons (.v 0) .nil)))) (.bin .pow (.k (.int 10)) (.k (.int 40)))) (.k (.int 48271)))))
  .nil) .nil) b__law_cell_3
def b__law_cell_1 : Ss := .cons (.set 2 (.bin .add (.bin .mul (.bin .mul (.v 1) (.v 1)) (.k (.int 7919))) (.k (.int 5)))) b__law_cell_2
def b__law_cell : Ss := .cons (.ife (.cmp .lt (.v 1) (.bi .len (.cons (.v 0) .nil))) (.cons (.ret (.bin .mod (.bin .mul (.bin .add (.ix (.v 0) (.v 1)) (.k (.int 7919))) (.k (.int 2718281828459045235360287471352662497757))) (.bin .pow (.k (.int 10)) (.k (.int 40)))))
  .nil) .nil) b__law_cell_1
-- _law_text: N 0=_law_cell_here 1=_law_most 2=_law_signs 3=_law_some 4=_law_size 5=_law_text_here 6=_law_k; fn ; cn 
def b__law_text_6 : Ss := .cons (.ret (.v 5)) .nil
def b__law_text_L1_1 : Ss := .cons (.set 0 (.bin .fdiv (.v 0) (.bi .len (.cons (.v 3) .nil)))) .nil
def b__law_text_L1 : Ss := .cons (.set 5 (.bin .add (.v 5) (.ix (.v 3) (.bin .mod (.v 0) (.bi .len (.cons (.v 3) .nil)))))) b__law_text_L1_1
def b__law_text_5 : Ss := .cons (.for_ (.x 6) (.rng1 (.v 4)) b__law_text_L1) b__law_text_6
def b__law_text_4 : Ss := .cons (.set 5 (.k (.str []))) b__law_text_5
def b__law_text_3 : Ss := .cons (.set 0 (.bin .fdiv (.v 0) (.k (.int 128)))) b__law_text_4
def b__law_text_2 : Ss := .cons (.set 4 (.bin .mod (.v 0) (.bin .add (.v 1) (.k (.int 1))))) b__law_text_3
def b__law_text_1 : Ss := .cons (.set 3 (.ix (.lst (.cons (.k (.str [97, 98, 65, 66, 49, 50, 32, 45])) (.cons (.k (.str [97, 66, 32, 49])) (.cons (.k (.str [97, 97, 98])) (.cons (.v 2) .nil))))) (.bin .mod (.bin .fdiv (.v 0) (.k (.int 32))) (.k (.int 4))))) b__law_text_2
def b__law_text : Ss := .cons (.set 2 (.k (.str [97, 98, 99, 100, 101, 102, 103, 104, 105, 106, 107, 108, 109, 110, 111, 112, 113, 114, 115, 116, 117, 118, 119, 120, 121, 122, 65, 66, 67, 68, 69, 70, 71, 72, 73, 74, 75, 76, 77, 78, 79, 80, 81, 82, 83, 84, 85, 86, 87, 88, 89, 90, 48, 49, 50, 51, 52, 53, 54, 55, 56, 57, 32, 45, 46, 44, 47]))) b__law_text_1
-- _law_place: N 0=_law_cell_here 1=_law_kind_here; fn ; cn 
def b__law_place_1 : Ss := .cons (.ret (.tup (.cons (.v 1) (.cons (.ix (.lst (.cons (.k (.int 1)) (.cons (.k (.int 2)) (.cons (.neg (.k (.int 1))) (.cons (.neg (.k (.int 2))) .nil))))) (.bin .mod (.bin .fdiv (.v 0) (.k (.int 5))) (.k (.int 4)))) (.cons (.ix (.lst (.cons (.k (.str [97, 104, 101, 97, 100])) (.cons (.k (.str [98, 101, 104, 105, 110, 100])) .nil))) (.bin .mod (.bin .fdiv (.v 0) (.k (.int 20))) (.k (.int 2)))) .nil))))) .nil
def b__law_place : Ss := .cons (.set 1 (.ix (.lst (.cons (.k (.str [115, 109, 97, 108, 108])) (.cons (.k (.str [103, 114, 101, 97, 116])) (.cons (.k (.str [102, 105, 103, 117, 114, 101])) (.cons (.k (.str [109, 97, 114, 107])) (.cons (.k (.str [97, 110, 121])) .nil)))))) (.bin .mod (.v 0) (.k (.int 5))))) b__law_place_1
-- _law_kind: N 0=_law_sign; fn ; cn 
def b__law_kind_3 : Ss := .cons (.ret (.k (.str [109, 97, 114, 107]))) .nil
def b__law_kind_2 : Ss := .cons (.ife (.mt .isdigit (.v 0) .nil) (.cons (.ret (.k (.str [102, 105, 103, 117, 114, 101])))
  .nil) .nil) b__law_kind_3
def b__law_kind_1 : Ss := .cons (.ife (.mt .isupper (.v 0) .nil) (.cons (.ret (.k (.str [103, 114, 101, 97, 116])))
  .nil) .nil) b__law_kind_2
def b__law_kind : Ss := .cons (.ife (.mt .islower (.v 0) .nil) (.cons (.ret (.k (.str [115, 109, 97, 108, 108])))
  .nil) .nil) b__law_kind_1
-- _law_spot: N 0=_law_place_here 1=_law_text_here 2=_law_found 3=_law_kind_here 4=_law_nth 5=_law_edge 6=_law_k; fn 0=_law_kind; cn 
def b__law_spot_4 : Ss := .cons (.ret (.bin .add (.ix (.v 2) (.v 4)) (.bi .int (.cons (.cmp .eq (.v 5) (.k (.str [98, 101, 104, 105, 110, 100]))) .nil)))) .nil
def b__law_spot_3 : Ss := .cons (.ife (.cmp .gt (.v 4) (.k (.int 0))) (.cons (.ret (.bin .add (.ix (.v 2) (.bin .sub (.v 4) (.k (.int 1)))) (.bi .int (.cons (.cmp .eq (.v 5) (.k (.str [98, 101, 104, 105, 110, 100]))) .nil))))
  .nil) .nil) b__law_spot_4
def b__law_spot_2 : Ss := .cons (.ife (.cmp .lt (.bi .len (.cons (.v 2) .nil)) (.bi .abs (.cons (.v 4) .nil))) (.cons (.ret (.k .non))
  .nil) .nil) b__law_spot_3
def b__law_spot_1 : Ss := .cons (.set 2 (.lc [6] (.rng1 (.bi .len (.cons (.v 1) .nil))) (.x 6) (.some (.or (.cmp .eq (.v 3) (.k (.str [97, 110, 121]))) (.cmp .eq (.call 0 (.cons (.ix (.v 1) (.v 6)) .nil)) (.v 3)))) (.v 6))) b__law_spot_2
def b__law_spot : Ss := .cons (.unp [3, 4, 5] (.v 0)) b__law_spot_1
-- _law_whole: N 0=_law_found; fn ; cn 
def b__law_whole : Ss := .cons (.ret (.and (.bi (.isi .int) (.cons (.v 0) .nil)) (.not (.bi (.isi .bool) (.cons (.v 0) .nil))))) .nil
-- _law_alike: N 0=_law_found 1=_law_due; fn 0=_law_whole; cn 
def b__law_alike_1 : Ss := .cons (.ret (.and (.call 0 (.cons (.v 0) .nil)) (.cmp .eq (.v 0) (.v 1)))) .nil
def b__law_alike : Ss := .cons (.ife (.cmp .is (.v 1) (.k .non)) (.cons (.ret (.cmp .is (.v 0) (.k .non)))
  .nil) .nil) b__law_alike_1
-- law: N 0=_law_script 1=_law_text_here 2=_law_number 3=_law_place_here 4=_law_k; fn 0=_law_alike 1=_law_spot 2=spot 3=_law_place 4=_law_cell 5=_law_text; cn 
def b_law_6 : Ss := .cons (.ret (.call 0 (.cons (.call 2 (.cons (.v 3) (.cons (.v 1) .nil))) (.cons (.call 1 (.cons (.v 3) (.cons (.v 1) .nil))) .nil)))) .nil
def b_law_5 : Ss := .cons (.ife (.not (.call 0 (.cons (.call 2 (.cons (.v 3) (.cons (.sl (.v 1) .none (.some (.k (.int 1)))) .nil))) (.cons (.call 1 (.cons (.v 3) (.cons (.sl (.v 1) .none (.some (.k (.int 1)))) .nil))) .nil)))) (.cons (.ret (.k (.bl false)))
  .nil) .nil) b_law_6
def b_law_4 : Ss := .cons (.ife (.cmp .isn (.call 2 (.cons (.v 3) (.cons (.k (.str [])) .nil))) (.k .non)) (.cons (.ret (.k (.bl false)))
  .nil) .nil) b_law_5
def b_law_3 : Ss := .cons (.set 3 (.call 3 (.cons (.call 4 (.cons (.v 0) (.cons (.k (.int 1)) .nil))) .nil))) b_law_4
def b_law_L1_1 : Ss := .cons (.ife (.not (.call 0 (.cons (.call 2 (.cons (.v 3) (.cons (.v 1) .nil))) (.cons (.call 1 (.cons (.v 3) (.cons (.v 1) .nil))) .nil)))) (.cons (.ret (.k (.bl false)))
  .nil) .nil) .nil
def b_law_L1 : Ss := .cons (.set 3 (.call 3 (.cons (.v 2) .nil))) b_law_L1_1
def b_law_2 : Ss := .cons (.for_ (.x 2) (.rng1 (.k (.int 40))) b_law_L1) b_law_3
def b_law_1 : Ss := .cons (.ife (.cmp .eq (.bin .mod (.bin .fdiv (.call 4 (.cons (.v 0) (.cons (.k (.int 1)) .nil))) (.k (.int 40))) (.k (.int 2))) (.k (.int 1))) (.cons (.set 1 (.mt .join (.k (.str [])) (.cons (.lc [4] (.rng2 (.k (.int 2)) (.bi .min2 (.cons (.k (.int 18)) (.cons (.bi .len (.cons (.v 0) .nil)) .nil)))) (.x 4) .none (.ix (.k (.str [97, 65, 49, 32, 45, 98, 66, 50])) (.bin .mod (.call 4 (.cons (.v 0) (.cons (.v 4) .nil))) (.k (.int 8))))) .nil)))
  .nil) .nil) b_law_2
def b_law : Ss := .cons (.set 1 (.call 5 (.cons (.call 4 (.cons (.v 0) (.cons (.k (.int 0)) .nil))) (.cons (.k (.int 24)) .nil)))) b_law_1

/-! ### small things -/
theorem eq_str (a b : List Nat) : eqD (.str a) (.str b) = (a == b) := by simp only [eqD]
theorem eq_int (a b : Int) : eqD (.int a) (.int b) = (a == b) := by simp only [eqD]
theorem ok_int (a : Int) : okN 40 (.int a) = true := rfl
theorem at0 {α : Type} (a : α) (r : List α) : L2.atI (a :: r) 0 = some a := L2.atI_nat (j := 0) rfl
theorem at1 {α : Type} (a b : α) (r : List α) : L2.atI (a :: b :: r) 1 = some b := L2.atI_nat (j := 1) rfl
theorem at2 {α : Type} (a b c : α) (r : List α) : L2.atI (a :: b :: c :: r) 2 = some c := L2.atI_nat (j := 2) rfl
theorem at3 {α : Type} (a b c d : α) (r : List α) : L2.atI (a :: b :: c :: d :: r) 3 = some d := L2.atI_nat (j := 3) rfl
theorem pick {α : Type} {xs : List α} (c : Int) (n : Int) (hn : n = xs.length) (h : 0 < n) : ∃ x, L2.atI xs (c % n) = some x ∧ x ∈ xs := by
  subst hn
  obtain ⟨x, e1, e2⟩ := atI_pos (xs := xs) (Int.emod_nonneg c (by omega)) (Int.emod_lt_of_pos c h)
  exact ⟨x, e1, List.mem_of_getElem? e2⟩
theorem atI_map {α β : Type} (f : α → β) (xs : List α) (i : Int) : L2.atI (xs.map f) i = (L2.atI xs i).map f := by
  unfold L2.atI
  rw [List.length_map]
  cases L2.ixN xs.length i with
  | none => rfl
  | some j => simp
theorem pickD {α : Type} {xs : List α} (f : α → D) {L : List D} (hL : L = xs.map f) (c : Int) (n : Int) (hn : n = xs.length) (h : 0 < n) : ∃ x, L2.atI L (c % n) = some (f x) ∧ x ∈ xs := by
  obtain ⟨x, e1, e2⟩ := pick (xs := xs) c n hn h
  exact ⟨x, by rw [hL, atI_map, e1]; rfl, e2⟩
theorem div_rng {c k m : Int} (h0 : 0 ≤ c) (h1 : c < m) (hk : 0 < k) : 0 ≤ c / k ∧ c / k < m := ⟨Int.ediv_nonneg h0 (by omega), Int.lt_of_le_of_lt (Int.ediv_le_self k h0) h1⟩
theorem cut_le {α : Type} (xs : List α) (lo hi : Option Int) : (cut xs lo hi).length ≤ xs.length := by
  unfold cut
  rw [List.length_take, List.length_drop]
  omega
theorem cut_to {α : Type} (xs : List α) (k : Nat) (h : k ≤ xs.length) : cut xs none (some (k : Int)) = xs.take k := by
  unfold cut
  rw [HT.sIx_nat, show HT.sIx xs.length 0 none = 0 from rfl, List.drop_zero, Nat.sub_zero, Nat.min_eq_left h]
theorem cut_mem {α : Type} {xs : List α} {lo hi : Option Int} {x : α} (h : x ∈ cut xs lo hi) : x ∈ xs := by
  unfold cut at h
  exact List.mem_of_mem_drop (List.mem_of_mem_take h)
theorem ok_str {s : List Nat} (h : ∀ c ∈ s, c < 128) : okN 40 (.str s) = true := by
  show (s.all fun c => decide (c < 0x110000)) = true
  rw [List.all_eq_true]
  intro c hc
  have := h c hc
  exact decide_eq_true (by omega)
/-- a number from nought on, below a bound -/
def Rn (m c : Int) : Prop := 0 ≤ c ∧ c < m
theorem Rn.div {m c k : Int} (h : Rn m c) (hk : 0 < k) : Rn m (c / k) := div_rng h.1 h.2 hk
open Builtin.Int in
theorem Rn.bits {c : Int} {m : Nat} (h : Rn (2 ^ m) c) : intBits c ≤ m := bits_nat h.1 h.2
theorem Rn.mono {m n c : Int} (h : Rn m c) (hk : m ≤ n) : Rn n c := ⟨h.1, Int.lt_of_lt_of_le h.2 hk⟩

/-! ### signs and kinds -/
def SMALL : List Nat := [97, 98, 99, 100, 101, 102, 103, 104, 105, 106, 107, 108, 109, 110, 111, 112, 113, 114, 115, 116, 117, 118, 119, 120, 121, 122]
def GREAT : List Nat := [65, 66, 67, 68, 69, 70, 71, 72, 73, 74, 75, 76, 77, 78, 79, 80, 81, 82, 83, 84, 85, 86, 87, 88, 89, 90]
def FIGS : List Nat := [48, 49, 50, 51, 52, 53, 54, 55, 56, 57]
def MARKS : List Nat := [32, 45, 46, 44, 47]
def SIGNS : List Nat := SMALL ++ GREAT ++ FIGS ++ MARKS
abbrev Sg (c : Nat) : Prop := c ∈ SIGNS
/-- a text of signs -/
def Tx (s : List Nat) : Prop := ∀ c ∈ s, Sg c
theorem sg_lt : ∀ c ∈ SIGNS, c < 128 := by decide +kernel
theorem Tx.lt {s : List Nat} (h : Tx s) : ∀ c ∈ s, c < 128 := fun c hc => sg_lt c (h c hc)
theorem Tx.ok {s : List Nat} (h : Tx s) : okN 40 (.str s) = true := ok_str h.lt
def kSmall : List Nat := [115, 109, 97, 108, 108]
def kGreat : List Nat := [103, 114, 101, 97, 116]
def kFig : List Nat := [102, 105, 103, 117, 114, 101]
def kMark : List Nat := [109, 97, 114, 107]
def kAny : List Nat := [97, 110, 121]
def KN : List (List Nat) := [kSmall, kGreat, kFig, kMark, kAny]
def eAhead : List Nat := [97, 104, 101, 97, 100]
def eBehind : List Nat := [98, 101, 104, 105, 110, 100]
def kindOf (c : Nat) : List Nat := if 97 ≤ c ∧ c ≤ 122 then kSmall else if 65 ≤ c ∧ c ≤ 90 then kGreat else if 48 ≤ c ∧ c ≤ 57 then kFig else kMark
theorem kind_in : ∀ c ∈ SIGNS, inS [c] SMALL = decide (97 ≤ c ∧ c ≤ 122) ∧ inS [c] GREAT = decide (65 ≤ c ∧ c ≤ 90) ∧ inS [c] FIGS = decide (48 ≤ c ∧ c ≤ 57) := by decide +kernel
theorem kind_is : ∀ c ∈ SIGNS, Txt.islower (St [c]) = decide (97 ≤ c ∧ c ≤ 122) ∧ Txt.isupper (St [c]) = decide (65 ≤ c ∧ c ≤ 90) ∧ Txt.isdigit (St [c]) = decide (48 ≤ c ∧ c ≤ 57) := by decide +kernel
theorem kn_ok : ∀ k ∈ KN, okN 40 (.str k) = true := by decide +kernel
theorem kindOf_mem (c : Nat) : kindOf c ∈ KN := by
  unfold kindOf
  split
  · decide
  · split
    · decide
    · split <;> decide
/-! ### kind_of -/
def sp_kind : PSpec := { ar := 1, G := Nat, pre := fun c ds => ds = [.str [c]] ∧ Sg c, ret := fun c r => r = .str (kindOf c) }
theorem r_kind {g d} : sp_kind.ret g d = (d = .str (kindOf g)) := rfl
theorem x_kind {g c} : sp_kind.exc g c = False := rfl
def m_kind : Sm := { fn := [], cn := [.str FIGS, .str GREAT, .str SMALL] }
theorem w_kind (c : Nat) (ds : List D) (hl : ds.length = 1) (hp : sp_kind.pre c ds) : wpSs m_kind b_kind_of (rho0 1 ds) (pt sp_kind c) := by
  obtain ⟨rfl, hc⟩ := hp
  obtain ⟨h1, h2, h3⟩ := kind_in c hc
  have e : ∀ d ρ, d = .str (kindOf c) → (pt sp_kind c).rt d ρ := fun d ρ h => h
  rw [show rho0 1 [D.str [c]] = [.val (.str [c])] from rfl]
  generalize pt sp_kind c = P at e ⊢
  unfold kindOf at e
  simp only [b_kind_of, b_kind_of_1, b_kind_of_2, b_kind_of_3, m_kind, h1, h2, h3, decide_eq_true_eq, Ts.q_o_v, Ts.q_o_k, Ts.q_o_g, Ts.q_o_bin, Ts.q_o_neg, Ts.q_o_cmp, Ts.q_o_cmp2, Ts.q_o_and, Ts.q_o_or, Ts.q_o_not, Ts.q_o_ite, Ts.q_o_tup, Ts.q_o_lst, Ts.q_o_ix, Ts.q_o_sl, Ts.q_o_call, Ts.q_o_bi, Ts.q_o_mt, Ts.q_o_lc, Ts.q_o_lrng, Ts.q_o_dic, Ts.q_o_dce, Ts.q_o_ise, Ts.q_o_o, Ts.q_od_v, Ts.q_od_o, Ts.q_ods_n, Ts.q_ods_c, Ts.q_sv_v, Ts.q_sv_l, Ts.q_own_l, Ts.q_isl_l, Ts.q_vs_v, Ts.q_vs_l, Ts.q_e_v, Ts.q_e_k, Ts.q_e_g, Ts.q_e_bin, Ts.q_e_neg, Ts.q_e_cmp, Ts.q_e_cmp2, Ts.q_e_and, Ts.q_e_or, Ts.q_e_not, Ts.q_e_ite, Ts.q_e_tup, Ts.q_e_lst, Ts.q_e_ix, Ts.q_e_sl, Ts.q_e_call, Ts.q_e_bi, Ts.q_e_mt, Ts.q_e_dic, Ts.q_e_dce, Ts.q_e_lrng, Ts.q_e_ise, Ts.q_es_n, Ts.q_es_c, Ts.q_os_n, Ts.q_os_c, Ts.q_oe_n, Ts.q_oe_s, Ts.q_if_n, Ts.q_if_s, Ts.q_it_of, Ts.q_it_r1, Ts.q_it_r2, Ts.q_it_en, Ts.q_it_z2, Ts.q_it_z3, Ts.q_nt_l, Ts.q_nt_s, Ts.q_im_s, Ts.q_im_l, Ts.q_im_t, Ts.q_s_set, Ts.q_s_new, Ts.q_s_unp, Ts.q_s_app, Ts.q_s_seti, Ts.q_s_ret, Ts.q_s_retn, Ts.q_s_ife, Ts.q_s_ex, Ts.q_s_pas, Ts.q_s_brk, Ts.q_s_cnt, Ts.q_s_rse, Ts.q_s_tri, Ts.q_ss_n, Ts.q_ss_c, Ts.q_tg_x, Ts.q_tg_xs, Ts.q_st_n, Ts.q_st_c, Ts.q_b_add_i, Ts.q_b_add_s, Ts.q_b_add_l, Ts.q_b_add_t, Ts.q_b_sub_i, Ts.q_b_mul_i, Ts.q_b_mul_s, Ts.q_b_fdiv_i, Ts.q_b_mod_i, Ts.q_b_pow_i, Ts.q_c_eq_a, Ts.q_c_ne_a, Ts.q_c_lt_i, Ts.q_c_le_i, Ts.q_c_gt_i, Ts.q_c_ge_i, Ts.q_c_is_b, Ts.q_c_isn_b, Ts.q_c_in__s, Ts.q_c_nin_s, Ts.q_c_in__t_int, Ts.q_c_nin_t_int, Ts.q_c_in__t_str, Ts.q_c_nin_t_str, Ts.q_c_in__t_bl, Ts.q_c_nin_t_bl, Ts.q_c_is_n, Ts.q_c_isn_n, Ts.q_c_in__l, Ts.q_c_nin_l, Ts.q_nn_non, Ts.q_nn_bl, Ts.q_nn_int, Ts.q_nn_str, Ts.q_nn_tup, Ts.q_nn_lst, Ts.q_nn_dct, Ts.q_i_s, Ts.q_i_l, Ts.q_i_t, Ts.q_sl_s, Ts.q_sl_l, Ts.q_sl_t, Ts.q_f_len_s, Ts.q_f_len_l, Ts.q_f_len_t, Ts.q_f_abs, Ts.q_f_int_i, Ts.q_f_int_b, Ts.q_f_str, Ts.q_f_list_l, Ts.q_f_list_t, Ts.q_f_tup_l, Ts.q_f_tup_t, Ts.q_f_sum, Ts.q_f_all, Ts.q_f_any, Ts.q_f_max2, Ts.q_f_min2, Ts.q_f_maxl, Ts.q_f_minl, Ts.q_f_isi, Ts.q_m_join, Ts.q_m_upper, Ts.q_m_lower, Ts.q_m_islower, Ts.q_m_isupper, Ts.q_m_isdigit, Ts.q_m_isalnum, Ts.q_m_split, Ts.q_isstr, Ts.q_ni_non, Ts.q_is_str_non, Ts.q_is_tuple_non, Ts.q_is_int_non, Ts.q_is_bool_non, Ts.q_is_list_non, Ts.q_ni_bl, Ts.q_is_str_bl, Ts.q_is_tuple_bl, Ts.q_is_int_bl, Ts.q_is_bool_bl, Ts.q_is_list_bl, Ts.q_ni_int, Ts.q_is_str_int, Ts.q_is_tuple_int, Ts.q_is_int_int, Ts.q_is_bool_int, Ts.q_is_list_int, Ts.q_ni_str, Ts.q_is_str_str, Ts.q_is_tuple_str, Ts.q_is_int_str, Ts.q_is_bool_str, Ts.q_is_list_str, Ts.q_ni_tup, Ts.q_is_str_tup, Ts.q_is_tuple_tup, Ts.q_is_int_tup, Ts.q_is_bool_tup, Ts.q_is_list_tup, Ts.q_ni_lst, Ts.q_is_str_lst, Ts.q_is_tuple_lst, Ts.q_is_int_lst, Ts.q_is_bool_lst, Ts.q_is_list_lst, Ts.q_ni_dct, Ts.q_is_str_dct, Ts.q_is_tuple_dct, Ts.q_is_int_dct, Ts.q_is_bool_dct, Ts.q_is_list_dct, Ts.q_s_for, Ts.q_s_whl, Ts.q_e_lc, Option.some.injEq, exists_eq_left', exists_eq_left, D.bl.injEq, D.int.injEq, D.str.injEq, D.lst.injEq, D.tup.injEq, Ts.Sl.lst.injEq, List.map_cons, List.map_nil, List.length_cons, List.length_nil, List.getElem?_cons_zero, List.getElem?_cons_succ, List.set_cons_zero, List.set_cons_succ, and_true, true_and, exists_and_left, if_true, if_false, Bool.false_eq_true, reduceIte, reduceCtorEq, Bool.not_true, Bool.not_false]
  split
  · rename_i h; rw [if_pos h] at e; exact e _ _ rfl
  · rename_i h; rw [if_neg h] at e
    split
    · rename_i h; rw [if_pos h] at e; exact e _ _ rfl
    · rename_i h; rw [if_neg h] at e
      split
      · rename_i h; rw [if_pos h] at e; exact e _ _ rfl
      · rename_i h; rw [if_neg h] at e; exact e _ _ rfl
abbrev sp_lkind : PSpec := sp_kind
def m_lkind : Sm := { fn := [], cn := [] }
theorem w_lkind (c : Nat) (ds : List D) (hl : ds.length = 1) (hp : sp_kind.pre c ds) : wpSs m_lkind b__law_kind (rho0 1 ds) (pt sp_kind c) := by
  obtain ⟨rfl, hc⟩ := hp
  obtain ⟨h1, h2, h3⟩ := kind_is c hc
  have e : ∀ d ρ, d = .str (kindOf c) → (pt sp_kind c).rt d ρ := fun d ρ h => h
  rw [show rho0 1 [D.str [c]] = [.val (.str [c])] from rfl]
  generalize pt sp_kind c = P at e ⊢
  unfold kindOf at e
  simp only [b__law_kind, b__law_kind_1, b__law_kind_2, b__law_kind_3, m_lkind, h1, h2, h3, decide_eq_true_eq, Ts.q_o_v, Ts.q_o_k, Ts.q_o_g, Ts.q_o_bin, Ts.q_o_neg, Ts.q_o_cmp, Ts.q_o_cmp2, Ts.q_o_and, Ts.q_o_or, Ts.q_o_not, Ts.q_o_ite, Ts.q_o_tup, Ts.q_o_lst, Ts.q_o_ix, Ts.q_o_sl, Ts.q_o_call, Ts.q_o_bi, Ts.q_o_mt, Ts.q_o_lc, Ts.q_o_lrng, Ts.q_o_dic, Ts.q_o_dce, Ts.q_o_ise, Ts.q_o_o, Ts.q_od_v, Ts.q_od_o, Ts.q_ods_n, Ts.q_ods_c, Ts.q_sv_v, Ts.q_sv_l, Ts.q_own_l, Ts.q_isl_l, Ts.q_vs_v, Ts.q_vs_l, Ts.q_e_v, Ts.q_e_k, Ts.q_e_g, Ts.q_e_bin, Ts.q_e_neg, Ts.q_e_cmp, Ts.q_e_cmp2, Ts.q_e_and, Ts.q_e_or, Ts.q_e_not, Ts.q_e_ite, Ts.q_e_tup, Ts.q_e_lst, Ts.q_e_ix, Ts.q_e_sl, Ts.q_e_call, Ts.q_e_bi, Ts.q_e_mt, Ts.q_e_dic, Ts.q_e_dce, Ts.q_e_lrng, Ts.q_e_ise, Ts.q_es_n, Ts.q_es_c, Ts.q_os_n, Ts.q_os_c, Ts.q_oe_n, Ts.q_oe_s, Ts.q_if_n, Ts.q_if_s, Ts.q_it_of, Ts.q_it_r1, Ts.q_it_r2, Ts.q_it_en, Ts.q_it_z2, Ts.q_it_z3, Ts.q_nt_l, Ts.q_nt_s, Ts.q_im_s, Ts.q_im_l, Ts.q_im_t, Ts.q_s_set, Ts.q_s_new, Ts.q_s_unp, Ts.q_s_app, Ts.q_s_seti, Ts.q_s_ret, Ts.q_s_retn, Ts.q_s_ife, Ts.q_s_ex, Ts.q_s_pas, Ts.q_s_brk, Ts.q_s_cnt, Ts.q_s_rse, Ts.q_s_tri, Ts.q_ss_n, Ts.q_ss_c, Ts.q_tg_x, Ts.q_tg_xs, Ts.q_st_n, Ts.q_st_c, Ts.q_b_add_i, Ts.q_b_add_s, Ts.q_b_add_l, Ts.q_b_add_t, Ts.q_b_sub_i, Ts.q_b_mul_i, Ts.q_b_mul_s, Ts.q_b_fdiv_i, Ts.q_b_mod_i, Ts.q_b_pow_i, Ts.q_c_eq_a, Ts.q_c_ne_a, Ts.q_c_lt_i, Ts.q_c_le_i, Ts.q_c_gt_i, Ts.q_c_ge_i, Ts.q_c_is_b, Ts.q_c_isn_b, Ts.q_c_in__s, Ts.q_c_nin_s, Ts.q_c_in__t_int, Ts.q_c_nin_t_int, Ts.q_c_in__t_str, Ts.q_c_nin_t_str, Ts.q_c_in__t_bl, Ts.q_c_nin_t_bl, Ts.q_c_is_n, Ts.q_c_isn_n, Ts.q_c_in__l, Ts.q_c_nin_l, Ts.q_nn_non, Ts.q_nn_bl, Ts.q_nn_int, Ts.q_nn_str, Ts.q_nn_tup, Ts.q_nn_lst, Ts.q_nn_dct, Ts.q_i_s, Ts.q_i_l, Ts.q_i_t, Ts.q_sl_s, Ts.q_sl_l, Ts.q_sl_t, Ts.q_f_len_s, Ts.q_f_len_l, Ts.q_f_len_t, Ts.q_f_abs, Ts.q_f_int_i, Ts.q_f_int_b, Ts.q_f_str, Ts.q_f_list_l, Ts.q_f_list_t, Ts.q_f_tup_l, Ts.q_f_tup_t, Ts.q_f_sum, Ts.q_f_all, Ts.q_f_any, Ts.q_f_max2, Ts.q_f_min2, Ts.q_f_maxl, Ts.q_f_minl, Ts.q_f_isi, Ts.q_m_join, Ts.q_m_upper, Ts.q_m_lower, Ts.q_m_islower, Ts.q_m_isupper, Ts.q_m_isdigit, Ts.q_m_isalnum, Ts.q_m_split, Ts.q_isstr, Ts.q_ni_non, Ts.q_is_str_non, Ts.q_is_tuple_non, Ts.q_is_int_non, Ts.q_is_bool_non, Ts.q_is_list_non, Ts.q_ni_bl, Ts.q_is_str_bl, Ts.q_is_tuple_bl, Ts.q_is_int_bl, Ts.q_is_bool_bl, Ts.q_is_list_bl, Ts.q_ni_int, Ts.q_is_str_int, Ts.q_is_tuple_int, Ts.q_is_int_int, Ts.q_is_bool_int, Ts.q_is_list_int, Ts.q_ni_str, Ts.q_is_str_str, Ts.q_is_tuple_str, Ts.q_is_int_str, Ts.q_is_bool_str, Ts.q_is_list_str, Ts.q_ni_tup, Ts.q_is_str_tup, Ts.q_is_tuple_tup, Ts.q_is_int_tup, Ts.q_is_bool_tup, Ts.q_is_list_tup, Ts.q_ni_lst, Ts.q_is_str_lst, Ts.q_is_tuple_lst, Ts.q_is_int_lst, Ts.q_is_bool_lst, Ts.q_is_list_lst, Ts.q_ni_dct, Ts.q_is_str_dct, Ts.q_is_tuple_dct, Ts.q_is_int_dct, Ts.q_is_bool_dct, Ts.q_is_list_dct, Ts.q_s_for, Ts.q_s_whl, Ts.q_e_lc, Option.some.injEq, exists_eq_left', exists_eq_left, D.bl.injEq, D.int.injEq, D.str.injEq, D.lst.injEq, D.tup.injEq, Ts.Sl.lst.injEq, List.map_cons, List.map_nil, List.length_cons, List.length_nil, List.getElem?_cons_zero, List.getElem?_cons_succ, List.set_cons_zero, List.set_cons_succ, and_true, true_and, exists_and_left, if_true, if_false, Bool.false_eq_true, reduceIte, reduceCtorEq, Bool.not_true, Bool.not_false]
  split
  · rename_i h; rw [if_pos h] at e; exact e _ _ rfl
  · rename_i h; rw [if_neg h] at e
    split
    · rename_i h; rw [if_pos h] at e; exact e _ _ rfl
    · rename_i h; rw [if_neg h] at e
      split
      · rename_i h; rw [if_pos h] at e; exact e _ _ rfl
      · rename_i h; rw [if_neg h] at e; exact e _ _ rfl
/-! ### places and where they are found -/
structure Plc where
  kind : List Nat
  nth : Int
  edge : List Nat
  deriving DecidableEq
def Plc.ok (p : Plc) : Prop := p.kind ∈ KN ∧ p.nth ∈ [1, 2, -1, -2] ∧ p.edge ∈ [eAhead, eBehind]
def dPl (p : Plc) : D := .tup [.str p.kind, .int p.nth, .str p.edge]
def ofKind (k : List Nat) (c : Nat) : Bool := k == kAny || kindOf c == k
def stF (k : List Nat) : Nat → List Nat → List Nat
  | _, [] => []
  | n, c :: t => if ofKind k c then n :: stF k (n + 1) t else stF k (n + 1) t
def stands (k t : List Nat) : List Nat := stF k 0 t
def spotBy (s : List Nat) (nth : Int) (edge : List Nat) : Option Nat :=
  if s.length < nth.natAbs then none else ((if 0 < nth then s[(nth - 1).toNat]? else s[((s.length : Int) + nth).toNat]?).map fun v => if edge = eBehind then v + 1 else v)
def spotT (p : Plc) (t : List Nat) : Option Nat := spotBy (stands p.kind t) p.nth p.edge
def dN (n : Nat) : D := .int n
def dO : Option Nat → D
  | none => .non
  | some n => .int n
theorem stF_len (k : List Nat) : ∀ (n : Nat) (t : List Nat), (stF k n t).length ≤ t.length
  | _, [] => Nat.le_refl _
  | n, c :: t => by
    have := stF_len k (n + 1) t
    unfold stF
    split
    · simp only [List.length_cons]; omega
    · simp only [List.length_cons]; omega
theorem stands_len (k t : List Nat) : (stands k t).length ≤ t.length := stF_len k 0 t
theorem stF_lt (k : List Nat) : ∀ (n : Nat) (t : List Nat), ∀ v ∈ stF k n t, v < n + t.length
  | _, [], v, h => by cases h
  | n, c :: t, v, h => by
    unfold stF at h
    split at h
    · rcases List.mem_cons.mp h with rfl | h
      · simp
      · have := stF_lt k (n + 1) t v h
        simp only [List.length_cons]; omega
    · have := stF_lt k (n + 1) t v h
      simp only [List.length_cons]; omega
theorem stF_any : ∀ (n : Nat) (t : List Nat), stF kAny n t = (List.range t.length).map (n + ·)
  | _, [] => rfl
  | n, c :: t => by
    unfold stF
    rw [if_pos (by unfold ofKind; rw [beq_self_eq_true, Bool.true_or]), stF_any (n + 1) t, List.length_cons, List.range_succ_eq_map, List.map_cons, List.map_map]
    rw [Nat.add_zero]
    congr 1
    apply List.map_congr_left
    intro x _
    show n + 1 + x = n + (x + 1)
    omega
/-- a list of the items of a walk for which a test holds -/
theorem fm_stF {k : List Nat} {R : D → Option D → Prop} (hR : ∀ (i : Nat) (c : Nat) (o : Option D), R (.tup [.int (i : Nat), .str [c]]) o → o = if ofKind k c then some (dN i) else none) :
    ∀ {n : Nat} {t : List Nat} {es : List D}, Fm R (enumD n (t.map fun c => .str [c])) es → es = (stF k n t).map dN := by
  intro n t
  induction t generalizing n with
  | nil => intro es f; cases f; rfl
  | cons c t ih =>
    intro es f
    rw [List.map_cons] at f
    unfold enumD at f
    unfold stF
    cases f with
    | skip h r =>
      have q := hR n c _ h
      have hk : ofKind k c = false := by
        cases z : ofKind k c with
        | false => rfl
        | true => rw [z] at q; cases q
      rw [if_neg (by rw [hk]; decide)]
      exact ih r
    | keep h r =>
      have q := hR n c _ h
      cases z : ofKind k c with
      | false => rw [z] at q; cases q
      | true =>
        rw [z] at q
        rw [if_pos rfl, List.map_cons, ih r]
        rw [if_pos rfl] at q
        cases q
        rfl
def sp_standings : PSpec := { ar := 2, G := List Nat × List Nat, pre := fun g ds => ds = [.str g.1, .str g.2] ∧ g.1 ∈ KN ∧ Tx g.2 ∧ g.2.length ≤ 100, ret := fun g r => r = .lst ((stands g.1 g.2).map dN) }
theorem r_standings {g d} : sp_standings.ret g d = (d = .lst ((stands g.1 g.2).map dN)) := rfl
theorem x_standings {g c} : sp_standings.exc g c = False := rfl
def m_standings : Sm := { fn := [sp_kind], cn := [] }
theorem w_standings (g : List Nat × List Nat) (ds : List D) (hl : ds.length = 2) (hp : sp_standings.pre g ds) : wpSs m_standings b_standings (rho0 4 ds) (pt sp_standings g) := by
  obtain ⟨k, t⟩ := g
  obtain ⟨rfl, hk, ht, hn⟩ := hp
  have hk : k ∈ KN := hk
  have ht : Tx t := ht
  have hn : t.length ≤ 100 := hn
  have e : ∀ d ρ, d = .lst ((stands k t).map dN) → (pt sp_standings (k, t)).rt d ρ := fun d ρ h => h
  rw [show rho0 4 [D.str k, D.str t] = [.val (.str k), .val (.str t), .no, .no] from rfl]
  generalize pt sp_standings (k, t) = P at e ⊢
  simp only [b_standings, m_standings, eq_str, Ts.q_o_v, Ts.q_o_k, Ts.q_o_g, Ts.q_o_bin, Ts.q_o_neg, Ts.q_o_cmp, Ts.q_o_cmp2, Ts.q_o_and, Ts.q_o_or, Ts.q_o_not, Ts.q_o_ite, Ts.q_o_tup, Ts.q_o_lst, Ts.q_o_ix, Ts.q_o_sl, Ts.q_o_call, Ts.q_o_bi, Ts.q_o_mt, Ts.q_o_lc, Ts.q_o_lrng, Ts.q_o_dic, Ts.q_o_dce, Ts.q_o_ise, Ts.q_o_o, Ts.q_od_v, Ts.q_od_o, Ts.q_ods_n, Ts.q_ods_c, Ts.q_sv_v, Ts.q_sv_l, Ts.q_own_l, Ts.q_isl_l, Ts.q_vs_v, Ts.q_vs_l, Ts.q_e_v, Ts.q_e_k, Ts.q_e_g, Ts.q_e_bin, Ts.q_e_neg, Ts.q_e_cmp, Ts.q_e_cmp2, Ts.q_e_and, Ts.q_e_or, Ts.q_e_not, Ts.q_e_ite, Ts.q_e_tup, Ts.q_e_lst, Ts.q_e_ix, Ts.q_e_sl, Ts.q_e_call, Ts.q_e_bi, Ts.q_e_mt, Ts.q_e_dic, Ts.q_e_dce, Ts.q_e_lrng, Ts.q_e_ise, Ts.q_es_n, Ts.q_es_c, Ts.q_os_n, Ts.q_os_c, Ts.q_oe_n, Ts.q_oe_s, Ts.q_if_n, Ts.q_if_s, Ts.q_it_of, Ts.q_it_r1, Ts.q_it_r2, Ts.q_it_en, Ts.q_it_z2, Ts.q_it_z3, Ts.q_nt_l, Ts.q_nt_s, Ts.q_im_s, Ts.q_im_l, Ts.q_im_t, Ts.q_s_set, Ts.q_s_new, Ts.q_s_unp, Ts.q_s_app, Ts.q_s_seti, Ts.q_s_ret, Ts.q_s_retn, Ts.q_s_ife, Ts.q_s_ex, Ts.q_s_pas, Ts.q_s_brk, Ts.q_s_cnt, Ts.q_s_rse, Ts.q_s_tri, Ts.q_ss_n, Ts.q_ss_c, Ts.q_tg_x, Ts.q_tg_xs, Ts.q_st_n, Ts.q_st_c, Ts.q_b_add_i, Ts.q_b_add_s, Ts.q_b_add_l, Ts.q_b_add_t, Ts.q_b_sub_i, Ts.q_b_mul_i, Ts.q_b_mul_s, Ts.q_b_fdiv_i, Ts.q_b_mod_i, Ts.q_b_pow_i, Ts.q_c_eq_a, Ts.q_c_ne_a, Ts.q_c_lt_i, Ts.q_c_le_i, Ts.q_c_gt_i, Ts.q_c_ge_i, Ts.q_c_is_b, Ts.q_c_isn_b, Ts.q_c_in__s, Ts.q_c_nin_s, Ts.q_c_in__t_int, Ts.q_c_nin_t_int, Ts.q_c_in__t_str, Ts.q_c_nin_t_str, Ts.q_c_in__t_bl, Ts.q_c_nin_t_bl, Ts.q_c_is_n, Ts.q_c_isn_n, Ts.q_c_in__l, Ts.q_c_nin_l, Ts.q_nn_non, Ts.q_nn_bl, Ts.q_nn_int, Ts.q_nn_str, Ts.q_nn_tup, Ts.q_nn_lst, Ts.q_nn_dct, Ts.q_i_s, Ts.q_i_l, Ts.q_i_t, Ts.q_sl_s, Ts.q_sl_l, Ts.q_sl_t, Ts.q_f_len_s, Ts.q_f_len_l, Ts.q_f_len_t, Ts.q_f_abs, Ts.q_f_int_i, Ts.q_f_int_b, Ts.q_f_str, Ts.q_f_list_l, Ts.q_f_list_t, Ts.q_f_tup_l, Ts.q_f_tup_t, Ts.q_f_sum, Ts.q_f_all, Ts.q_f_any, Ts.q_f_max2, Ts.q_f_min2, Ts.q_f_maxl, Ts.q_f_minl, Ts.q_f_isi, Ts.q_m_join, Ts.q_m_upper, Ts.q_m_lower, Ts.q_m_islower, Ts.q_m_isupper, Ts.q_m_isdigit, Ts.q_m_isalnum, Ts.q_m_split, Ts.q_isstr, Ts.q_ni_non, Ts.q_is_str_non, Ts.q_is_tuple_non, Ts.q_is_int_non, Ts.q_is_bool_non, Ts.q_is_list_non, Ts.q_ni_bl, Ts.q_is_str_bl, Ts.q_is_tuple_bl, Ts.q_is_int_bl, Ts.q_is_bool_bl, Ts.q_is_list_bl, Ts.q_ni_int, Ts.q_is_str_int, Ts.q_is_tuple_int, Ts.q_is_int_int, Ts.q_is_bool_int, Ts.q_is_list_int, Ts.q_ni_str, Ts.q_is_str_str, Ts.q_is_tuple_str, Ts.q_is_int_str, Ts.q_is_bool_str, Ts.q_is_list_str, Ts.q_ni_tup, Ts.q_is_str_tup, Ts.q_is_tuple_tup, Ts.q_is_int_tup, Ts.q_is_bool_tup, Ts.q_is_list_tup, Ts.q_ni_lst, Ts.q_is_str_lst, Ts.q_is_tuple_lst, Ts.q_is_int_lst, Ts.q_is_bool_lst, Ts.q_is_list_lst, Ts.q_ni_dct, Ts.q_is_str_dct, Ts.q_is_tuple_dct, Ts.q_is_int_dct, Ts.q_is_bool_dct, Ts.q_is_list_dct, Ts.q_s_for, Ts.q_s_whl, Ts.q_e_lc, Option.some.injEq, exists_eq_left', exists_eq_left, D.bl.injEq, D.int.injEq, D.str.injEq, D.lst.injEq, D.tup.injEq, Ts.Sl.lst.injEq, List.map_cons, List.map_nil, List.length_cons, List.length_nil, List.getElem?_cons_zero, List.getElem?_cons_succ, List.set_cons_zero, List.set_cons_succ, and_true, true_and, exists_and_left, if_true, if_false, Bool.false_eq_true, reduceIte, reduceCtorEq, Bool.not_true, Bool.not_false]
  refine ⟨kn_ok k hk, by decide, ?_⟩
  by_cases h : k = kAny
  · rw [if_pos (by rw [h]; rfl)]
    refine ⟨by show t.length ≤ 16777216; omega, by omega, by show (t.length : Int) ≤ 16777216; omega, e _ _ ?_⟩
    unfold stands
    rw [h, stF_any, List.map_map]
    unfold rngD
    congr 1
  · have hne : (k == [97, 110, 121]) = false := beq_eq_false_iff_ne.mpr h
    rw [hne]
    simp only [b_standings_1, Ts.q_o_v, Ts.q_o_k, Ts.q_o_g, Ts.q_o_bin, Ts.q_o_neg, Ts.q_o_cmp, Ts.q_o_cmp2, Ts.q_o_and, Ts.q_o_or, Ts.q_o_not, Ts.q_o_ite, Ts.q_o_tup, Ts.q_o_lst, Ts.q_o_ix, Ts.q_o_sl, Ts.q_o_call, Ts.q_o_bi, Ts.q_o_mt, Ts.q_o_lc, Ts.q_o_lrng, Ts.q_o_dic, Ts.q_o_dce, Ts.q_o_ise, Ts.q_o_o, Ts.q_od_v, Ts.q_od_o, Ts.q_ods_n, Ts.q_ods_c, Ts.q_sv_v, Ts.q_sv_l, Ts.q_own_l, Ts.q_isl_l, Ts.q_vs_v, Ts.q_vs_l, Ts.q_e_v, Ts.q_e_k, Ts.q_e_g, Ts.q_e_bin, Ts.q_e_neg, Ts.q_e_cmp, Ts.q_e_cmp2, Ts.q_e_and, Ts.q_e_or, Ts.q_e_not, Ts.q_e_ite, Ts.q_e_tup, Ts.q_e_lst, Ts.q_e_ix, Ts.q_e_sl, Ts.q_e_call, Ts.q_e_bi, Ts.q_e_mt, Ts.q_e_dic, Ts.q_e_dce, Ts.q_e_lrng, Ts.q_e_ise, Ts.q_es_n, Ts.q_es_c, Ts.q_os_n, Ts.q_os_c, Ts.q_oe_n, Ts.q_oe_s, Ts.q_if_n, Ts.q_if_s, Ts.q_it_of, Ts.q_it_r1, Ts.q_it_r2, Ts.q_it_en, Ts.q_it_z2, Ts.q_it_z3, Ts.q_nt_l, Ts.q_nt_s, Ts.q_im_s, Ts.q_im_l, Ts.q_im_t, Ts.q_s_set, Ts.q_s_new, Ts.q_s_unp, Ts.q_s_app, Ts.q_s_seti, Ts.q_s_ret, Ts.q_s_retn, Ts.q_s_ife, Ts.q_s_ex, Ts.q_s_pas, Ts.q_s_brk, Ts.q_s_cnt, Ts.q_s_rse, Ts.q_s_tri, Ts.q_ss_n, Ts.q_ss_c, Ts.q_tg_x, Ts.q_tg_xs, Ts.q_st_n, Ts.q_st_c, Ts.q_b_add_i, Ts.q_b_add_s, Ts.q_b_add_l, Ts.q_b_add_t, Ts.q_b_sub_i, Ts.q_b_mul_i, Ts.q_b_mul_s, Ts.q_b_fdiv_i, Ts.q_b_mod_i, Ts.q_b_pow_i, Ts.q_c_eq_a, Ts.q_c_ne_a, Ts.q_c_lt_i, Ts.q_c_le_i, Ts.q_c_gt_i, Ts.q_c_ge_i, Ts.q_c_is_b, Ts.q_c_isn_b, Ts.q_c_in__s, Ts.q_c_nin_s, Ts.q_c_in__t_int, Ts.q_c_nin_t_int, Ts.q_c_in__t_str, Ts.q_c_nin_t_str, Ts.q_c_in__t_bl, Ts.q_c_nin_t_bl, Ts.q_c_is_n, Ts.q_c_isn_n, Ts.q_c_in__l, Ts.q_c_nin_l, Ts.q_nn_non, Ts.q_nn_bl, Ts.q_nn_int, Ts.q_nn_str, Ts.q_nn_tup, Ts.q_nn_lst, Ts.q_nn_dct, Ts.q_i_s, Ts.q_i_l, Ts.q_i_t, Ts.q_sl_s, Ts.q_sl_l, Ts.q_sl_t, Ts.q_f_len_s, Ts.q_f_len_l, Ts.q_f_len_t, Ts.q_f_abs, Ts.q_f_int_i, Ts.q_f_int_b, Ts.q_f_str, Ts.q_f_list_l, Ts.q_f_list_t, Ts.q_f_tup_l, Ts.q_f_tup_t, Ts.q_f_sum, Ts.q_f_all, Ts.q_f_any, Ts.q_f_max2, Ts.q_f_min2, Ts.q_f_maxl, Ts.q_f_minl, Ts.q_f_isi, Ts.q_m_join, Ts.q_m_upper, Ts.q_m_lower, Ts.q_m_islower, Ts.q_m_isupper, Ts.q_m_isdigit, Ts.q_m_isalnum, Ts.q_m_split, Ts.q_isstr, Ts.q_ni_non, Ts.q_is_str_non, Ts.q_is_tuple_non, Ts.q_is_int_non, Ts.q_is_bool_non, Ts.q_is_list_non, Ts.q_ni_bl, Ts.q_is_str_bl, Ts.q_is_tuple_bl, Ts.q_is_int_bl, Ts.q_is_bool_bl, Ts.q_is_list_bl, Ts.q_ni_int, Ts.q_is_str_int, Ts.q_is_tuple_int, Ts.q_is_int_int, Ts.q_is_bool_int, Ts.q_is_list_int, Ts.q_ni_str, Ts.q_is_str_str, Ts.q_is_tuple_str, Ts.q_is_int_str, Ts.q_is_bool_str, Ts.q_is_list_str, Ts.q_ni_tup, Ts.q_is_str_tup, Ts.q_is_tuple_tup, Ts.q_is_int_tup, Ts.q_is_bool_tup, Ts.q_is_list_tup, Ts.q_ni_lst, Ts.q_is_str_lst, Ts.q_is_tuple_lst, Ts.q_is_int_lst, Ts.q_is_bool_lst, Ts.q_is_list_lst, Ts.q_ni_dct, Ts.q_is_str_dct, Ts.q_is_tuple_dct, Ts.q_is_int_dct, Ts.q_is_bool_dct, Ts.q_is_list_dct, Ts.q_s_for, Ts.q_s_whl, Ts.q_e_lc, Option.some.injEq, exists_eq_left', exists_eq_left, D.bl.injEq, D.int.injEq, D.str.injEq, D.lst.injEq, D.tup.injEq, Ts.Sl.lst.injEq, List.map_cons, List.map_nil, List.length_cons, List.length_nil, List.getElem?_cons_zero, List.getElem?_cons_succ, List.set_cons_zero, List.set_cons_succ, and_true, true_and, exists_and_left, if_true, if_false, Bool.false_eq_true, reduceIte, reduceCtorEq, Bool.not_true, Bool.not_false]
    refine ⟨by rw [enumD_len, List.length_map]; show t.length ≤ 16777216; omega, by rfl, fun d o => ∃ i c, d = .tup [.int (i : Nat), .str [c]] ∧ o = if ofKind k c then some (dN i) else none, fun d hd => ?_, fun es f => e _ _ ?_⟩
    · obtain ⟨i, hi⟩ := List.getElem?_of_mem hd
      have hil : i < t.length := by
        have := (List.getElem?_eq_some_iff.mp hi).1
        rw [enumD_len, List.length_map] at this
        exact this
      have hc : t[i]? = some t[i] := by simp [hil]
      have e1 : (t.map fun c => D.str [c])[i]? = some (.str [t[i]]) := by rw [List.getElem?_map, hc]; rfl
      have e2 := enumD_get (n := 0) e1
      rw [hi] at e2
      cases e2
      rw [Nat.zero_add]
      simp only [wipeE, x_kind, r_kind, forall_eq, false_implies, implies_true, eq_str, Ts.q_o_v, Ts.q_o_k, Ts.q_o_g, Ts.q_o_bin, Ts.q_o_neg, Ts.q_o_cmp, Ts.q_o_cmp2, Ts.q_o_and, Ts.q_o_or, Ts.q_o_not, Ts.q_o_ite, Ts.q_o_tup, Ts.q_o_lst, Ts.q_o_ix, Ts.q_o_sl, Ts.q_o_call, Ts.q_o_bi, Ts.q_o_mt, Ts.q_o_lc, Ts.q_o_lrng, Ts.q_o_dic, Ts.q_o_dce, Ts.q_o_ise, Ts.q_o_o, Ts.q_od_v, Ts.q_od_o, Ts.q_ods_n, Ts.q_ods_c, Ts.q_sv_v, Ts.q_sv_l, Ts.q_own_l, Ts.q_isl_l, Ts.q_vs_v, Ts.q_vs_l, Ts.q_e_v, Ts.q_e_k, Ts.q_e_g, Ts.q_e_bin, Ts.q_e_neg, Ts.q_e_cmp, Ts.q_e_cmp2, Ts.q_e_and, Ts.q_e_or, Ts.q_e_not, Ts.q_e_ite, Ts.q_e_tup, Ts.q_e_lst, Ts.q_e_ix, Ts.q_e_sl, Ts.q_e_call, Ts.q_e_bi, Ts.q_e_mt, Ts.q_e_dic, Ts.q_e_dce, Ts.q_e_lrng, Ts.q_e_ise, Ts.q_es_n, Ts.q_es_c, Ts.q_os_n, Ts.q_os_c, Ts.q_oe_n, Ts.q_oe_s, Ts.q_if_n, Ts.q_if_s, Ts.q_it_of, Ts.q_it_r1, Ts.q_it_r2, Ts.q_it_en, Ts.q_it_z2, Ts.q_it_z3, Ts.q_nt_l, Ts.q_nt_s, Ts.q_im_s, Ts.q_im_l, Ts.q_im_t, Ts.q_s_set, Ts.q_s_new, Ts.q_s_unp, Ts.q_s_app, Ts.q_s_seti, Ts.q_s_ret, Ts.q_s_retn, Ts.q_s_ife, Ts.q_s_ex, Ts.q_s_pas, Ts.q_s_brk, Ts.q_s_cnt, Ts.q_s_rse, Ts.q_s_tri, Ts.q_ss_n, Ts.q_ss_c, Ts.q_tg_x, Ts.q_tg_xs, Ts.q_st_n, Ts.q_st_c, Ts.q_b_add_i, Ts.q_b_add_s, Ts.q_b_add_l, Ts.q_b_add_t, Ts.q_b_sub_i, Ts.q_b_mul_i, Ts.q_b_mul_s, Ts.q_b_fdiv_i, Ts.q_b_mod_i, Ts.q_b_pow_i, Ts.q_c_eq_a, Ts.q_c_ne_a, Ts.q_c_lt_i, Ts.q_c_le_i, Ts.q_c_gt_i, Ts.q_c_ge_i, Ts.q_c_is_b, Ts.q_c_isn_b, Ts.q_c_in__s, Ts.q_c_nin_s, Ts.q_c_in__t_int, Ts.q_c_nin_t_int, Ts.q_c_in__t_str, Ts.q_c_nin_t_str, Ts.q_c_in__t_bl, Ts.q_c_nin_t_bl, Ts.q_c_is_n, Ts.q_c_isn_n, Ts.q_c_in__l, Ts.q_c_nin_l, Ts.q_nn_non, Ts.q_nn_bl, Ts.q_nn_int, Ts.q_nn_str, Ts.q_nn_tup, Ts.q_nn_lst, Ts.q_nn_dct, Ts.q_i_s, Ts.q_i_l, Ts.q_i_t, Ts.q_sl_s, Ts.q_sl_l, Ts.q_sl_t, Ts.q_f_len_s, Ts.q_f_len_l, Ts.q_f_len_t, Ts.q_f_abs, Ts.q_f_int_i, Ts.q_f_int_b, Ts.q_f_str, Ts.q_f_list_l, Ts.q_f_list_t, Ts.q_f_tup_l, Ts.q_f_tup_t, Ts.q_f_sum, Ts.q_f_all, Ts.q_f_any, Ts.q_f_max2, Ts.q_f_min2, Ts.q_f_maxl, Ts.q_f_minl, Ts.q_f_isi, Ts.q_m_join, Ts.q_m_upper, Ts.q_m_lower, Ts.q_m_islower, Ts.q_m_isupper, Ts.q_m_isdigit, Ts.q_m_isalnum, Ts.q_m_split, Ts.q_isstr, Ts.q_ni_non, Ts.q_is_str_non, Ts.q_is_tuple_non, Ts.q_is_int_non, Ts.q_is_bool_non, Ts.q_is_list_non, Ts.q_ni_bl, Ts.q_is_str_bl, Ts.q_is_tuple_bl, Ts.q_is_int_bl, Ts.q_is_bool_bl, Ts.q_is_list_bl, Ts.q_ni_int, Ts.q_is_str_int, Ts.q_is_tuple_int, Ts.q_is_int_int, Ts.q_is_bool_int, Ts.q_is_list_int, Ts.q_ni_str, Ts.q_is_str_str, Ts.q_is_tuple_str, Ts.q_is_int_str, Ts.q_is_bool_str, Ts.q_is_list_str, Ts.q_ni_tup, Ts.q_is_str_tup, Ts.q_is_tuple_tup, Ts.q_is_int_tup, Ts.q_is_bool_tup, Ts.q_is_list_tup, Ts.q_ni_lst, Ts.q_is_str_lst, Ts.q_is_tuple_lst, Ts.q_is_int_lst, Ts.q_is_bool_lst, Ts.q_is_list_lst, Ts.q_ni_dct, Ts.q_is_str_dct, Ts.q_is_tuple_dct, Ts.q_is_int_dct, Ts.q_is_bool_dct, Ts.q_is_list_dct, Ts.q_s_for, Ts.q_s_whl, Ts.q_e_lc, Option.some.injEq, exists_eq_left', exists_eq_left, D.bl.injEq, D.int.injEq, D.str.injEq, D.lst.injEq, D.tup.injEq, Ts.Sl.lst.injEq, List.map_cons, List.map_nil, List.length_cons, List.length_nil, List.getElem?_cons_zero, List.getElem?_cons_succ, List.set_cons_zero, List.set_cons_succ, and_true, true_and, exists_and_left, if_true, if_false, Bool.false_eq_true, reduceIte, reduceCtorEq, Bool.not_true, Bool.not_false]
      refine ⟨rfl, t[i], ⟨rfl, ht _ (List.getElem_mem _)⟩, kn_ok _ (kindOf_mem _), kn_ok k hk, ?_⟩
      have hof : ofKind k t[i] = (kindOf t[i] == k) := by unfold ofKind; rw [show (k == kAny) = false from beq_eq_false_iff_ne.mpr h, Bool.false_or]
      cases z : (kindOf t[i] == k) with
      | true => exact ⟨i, t[i], rfl, by rw [hof, z]; rfl⟩
      | false => exact ⟨i, t[i], rfl, by rw [hof, z]; rfl⟩
    · have q := fm_stF (k := k) (fun i c o h => by
        obtain ⟨i', c', e1, e2⟩ := h
        simp only [D.tup.injEq, List.cons.injEq, D.int.injEq, D.str.injEq, and_true] at e1
        obtain ⟨e3, e4⟩ := e1
        have e3' : i = i' := by omega
        subst e3' e4
        exact e2) f
      rw [q]; rfl
theorem atI_dN {s : List Nat} {i : Int} {v : Nat} (h : L2.atI s i = some v) : L2.atI (s.map dN) i = some (.int v) := by rw [atI_map, h]; rfl
theorem nat_nth {s : List Nat} {nth : Int} (hn : nth ∈ [(1 : Int), 2, -1, -2]) (h : ¬ s.length < nth.natAbs) : ∃ v, (if 0 < nth then s[(nth - 1).toNat]? else s[((s.length : Int) + nth).toNat]?) = some v ∧ L2.atI s (if 0 < nth then nth - 1 else nth) = some v := by
  have hn0 : nth ≠ 0 := by
    simp only [List.mem_cons, List.not_mem_nil, or_false] at hn
    omega
  by_cases hp : 0 < nth
  · rw [if_pos hp, if_pos hp]
    obtain ⟨v, h1, h2⟩ := atI_pos (xs := s) (i := nth - 1) (by omega) (by omega)
    exact ⟨v, h2, h1⟩
  · rw [if_neg hp, if_neg hp]
    have hlt : ((s.length : Int) + nth).toNat < s.length := by omega
    refine ⟨s[((s.length : Int) + nth).toNat], by simp [hlt], ?_⟩
    unfold L2.atI
    have : L2.ixN s.length nth = some ((s.length : Int) + nth).toNat := by
      unfold L2.ixN
      rw [if_neg (by omega), if_pos (by omega), Int.add_comm]
    rw [this]
    simp [hlt]
def sp_spot_by : PSpec := { ar := 3, G := List Nat × Int × List Nat, pre := fun g ds => ds = [.lst (g.1.map dN), .int g.2.1, .str g.2.2] ∧ g.2.1 ∈ [(1 : Int), 2, -1, -2] ∧ g.2.2 ∈ [eAhead, eBehind], ret := fun g r => r = dO (spotBy g.1 g.2.1 g.2.2) }
theorem r_spot_by {g d} : sp_spot_by.ret g d = (d = dO (spotBy g.1 g.2.1 g.2.2)) := rfl
theorem x_spot_by {g c} : sp_spot_by.exc g c = False := rfl
def m_spot_by : Sm := { fn := [], cn := [] }
theorem w_spot_by (g : List Nat × Int × List Nat) (ds : List D) (hl : ds.length = 3) (hp : sp_spot_by.pre g ds) : wpSs m_spot_by b_spot_by (rho0 3 ds) (pt sp_spot_by g) := by
  obtain ⟨s, n, ed⟩ := g
  obtain ⟨rfl, hn, he⟩ := hp
  have hn : n ∈ [(1 : Int), 2, -1, -2] := hn
  have he : ed ∈ [eAhead, eBehind] := he
  have e : ∀ d ρ, d = dO (spotBy s n ed) → (pt sp_spot_by (s, n, ed)).rt d ρ := fun d ρ h => h
  rw [show rho0 3 [D.lst (s.map dN), .int n, .str ed] = [.val (.lst (s.map dN)), .val (.int n), .val (.str ed)] from rfl]
  generalize pt sp_spot_by (s, n, ed) = P at e ⊢
  unfold spotBy at e
  have habs : (if n < 0 then -n else n) = (n.natAbs : Int) := by split <;> omega
  simp only [b_spot_by, m_spot_by, List.length_map, habs, Ts.q_o_v, Ts.q_o_k, Ts.q_o_g, Ts.q_o_bin, Ts.q_o_neg, Ts.q_o_cmp, Ts.q_o_cmp2, Ts.q_o_and, Ts.q_o_or, Ts.q_o_not, Ts.q_o_ite, Ts.q_o_tup, Ts.q_o_lst, Ts.q_o_ix, Ts.q_o_sl, Ts.q_o_call, Ts.q_o_bi, Ts.q_o_mt, Ts.q_o_lc, Ts.q_o_lrng, Ts.q_o_dic, Ts.q_o_dce, Ts.q_o_ise, Ts.q_o_o, Ts.q_od_v, Ts.q_od_o, Ts.q_ods_n, Ts.q_ods_c, Ts.q_sv_v, Ts.q_sv_l, Ts.q_own_l, Ts.q_isl_l, Ts.q_vs_v, Ts.q_vs_l, Ts.q_e_v, Ts.q_e_k, Ts.q_e_g, Ts.q_e_bin, Ts.q_e_neg, Ts.q_e_cmp, Ts.q_e_cmp2, Ts.q_e_and, Ts.q_e_or, Ts.q_e_not, Ts.q_e_ite, Ts.q_e_tup, Ts.q_e_lst, Ts.q_e_ix, Ts.q_e_sl, Ts.q_e_call, Ts.q_e_bi, Ts.q_e_mt, Ts.q_e_dic, Ts.q_e_dce, Ts.q_e_lrng, Ts.q_e_ise, Ts.q_es_n, Ts.q_es_c, Ts.q_os_n, Ts.q_os_c, Ts.q_oe_n, Ts.q_oe_s, Ts.q_if_n, Ts.q_if_s, Ts.q_it_of, Ts.q_it_r1, Ts.q_it_r2, Ts.q_it_en, Ts.q_it_z2, Ts.q_it_z3, Ts.q_nt_l, Ts.q_nt_s, Ts.q_im_s, Ts.q_im_l, Ts.q_im_t, Ts.q_s_set, Ts.q_s_new, Ts.q_s_unp, Ts.q_s_app, Ts.q_s_seti, Ts.q_s_ret, Ts.q_s_retn, Ts.q_s_ife, Ts.q_s_ex, Ts.q_s_pas, Ts.q_s_brk, Ts.q_s_cnt, Ts.q_s_rse, Ts.q_s_tri, Ts.q_ss_n, Ts.q_ss_c, Ts.q_tg_x, Ts.q_tg_xs, Ts.q_st_n, Ts.q_st_c, Ts.q_b_add_i, Ts.q_b_add_s, Ts.q_b_add_l, Ts.q_b_add_t, Ts.q_b_sub_i, Ts.q_b_mul_i, Ts.q_b_mul_s, Ts.q_b_fdiv_i, Ts.q_b_mod_i, Ts.q_b_pow_i, Ts.q_c_eq_a, Ts.q_c_ne_a, Ts.q_c_lt_i, Ts.q_c_le_i, Ts.q_c_gt_i, Ts.q_c_ge_i, Ts.q_c_is_b, Ts.q_c_isn_b, Ts.q_c_in__s, Ts.q_c_nin_s, Ts.q_c_in__t_int, Ts.q_c_nin_t_int, Ts.q_c_in__t_str, Ts.q_c_nin_t_str, Ts.q_c_in__t_bl, Ts.q_c_nin_t_bl, Ts.q_c_is_n, Ts.q_c_isn_n, Ts.q_c_in__l, Ts.q_c_nin_l, Ts.q_nn_non, Ts.q_nn_bl, Ts.q_nn_int, Ts.q_nn_str, Ts.q_nn_tup, Ts.q_nn_lst, Ts.q_nn_dct, Ts.q_i_s, Ts.q_i_l, Ts.q_i_t, Ts.q_sl_s, Ts.q_sl_l, Ts.q_sl_t, Ts.q_f_len_s, Ts.q_f_len_l, Ts.q_f_len_t, Ts.q_f_abs, Ts.q_f_int_i, Ts.q_f_int_b, Ts.q_f_str, Ts.q_f_list_l, Ts.q_f_list_t, Ts.q_f_tup_l, Ts.q_f_tup_t, Ts.q_f_sum, Ts.q_f_all, Ts.q_f_any, Ts.q_f_max2, Ts.q_f_min2, Ts.q_f_maxl, Ts.q_f_minl, Ts.q_f_isi, Ts.q_m_join, Ts.q_m_upper, Ts.q_m_lower, Ts.q_m_islower, Ts.q_m_isupper, Ts.q_m_isdigit, Ts.q_m_isalnum, Ts.q_m_split, Ts.q_isstr, Ts.q_ni_non, Ts.q_is_str_non, Ts.q_is_tuple_non, Ts.q_is_int_non, Ts.q_is_bool_non, Ts.q_is_list_non, Ts.q_ni_bl, Ts.q_is_str_bl, Ts.q_is_tuple_bl, Ts.q_is_int_bl, Ts.q_is_bool_bl, Ts.q_is_list_bl, Ts.q_ni_int, Ts.q_is_str_int, Ts.q_is_tuple_int, Ts.q_is_int_int, Ts.q_is_bool_int, Ts.q_is_list_int, Ts.q_ni_str, Ts.q_is_str_str, Ts.q_is_tuple_str, Ts.q_is_int_str, Ts.q_is_bool_str, Ts.q_is_list_str, Ts.q_ni_tup, Ts.q_is_str_tup, Ts.q_is_tuple_tup, Ts.q_is_int_tup, Ts.q_is_bool_tup, Ts.q_is_list_tup, Ts.q_ni_lst, Ts.q_is_str_lst, Ts.q_is_tuple_lst, Ts.q_is_int_lst, Ts.q_is_bool_lst, Ts.q_is_list_lst, Ts.q_ni_dct, Ts.q_is_str_dct, Ts.q_is_tuple_dct, Ts.q_is_int_dct, Ts.q_is_bool_dct, Ts.q_is_list_dct, Ts.q_s_for, Ts.q_s_whl, Ts.q_e_lc, Option.some.injEq, exists_eq_left', exists_eq_left, D.bl.injEq, D.int.injEq, D.str.injEq, D.lst.injEq, D.tup.injEq, Ts.Sl.lst.injEq, List.map_cons, List.map_nil, List.length_cons, List.length_nil, List.getElem?_cons_zero, List.getElem?_cons_succ, List.set_cons_zero, List.set_cons_succ, and_true, true_and, exists_and_left, if_true, if_false, Bool.false_eq_true, reduceIte, reduceCtorEq, Bool.not_true, Bool.not_false]
  by_cases h : s.length < n.natAbs
  · rw [if_pos (decide_eq_true (by omega))]
    rw [if_pos h] at e
    exact e _ _ rfl
  · rw [if_neg (by simp only [decide_eq_true_eq]; omega)]
    rw [if_neg h] at e
    obtain ⟨v, h1, h2⟩ := nat_nth (s := s) hn h
    rw [h1] at e
    have rest : ∀ m : Int, L2.atI s m = some v → Ts.wpSs { fn := [], cn := [] } b_spot_by_2 [.val (.lst (s.map dN)), .val (.int m), .val (.str ed)] P := fun m hm => by
      have oke : okN 40 (.str ed) = true := by
        simp only [List.mem_cons, List.not_mem_nil, or_false] at he
        rcases he with he | he <;> rw [he] <;> decide
      simp only [b_spot_by_2, b_spot_by_3, eq_str, Ts.q_o_v, Ts.q_o_k, Ts.q_o_g, Ts.q_o_bin, Ts.q_o_neg, Ts.q_o_cmp, Ts.q_o_cmp2, Ts.q_o_and, Ts.q_o_or, Ts.q_o_not, Ts.q_o_ite, Ts.q_o_tup, Ts.q_o_lst, Ts.q_o_ix, Ts.q_o_sl, Ts.q_o_call, Ts.q_o_bi, Ts.q_o_mt, Ts.q_o_lc, Ts.q_o_lrng, Ts.q_o_dic, Ts.q_o_dce, Ts.q_o_ise, Ts.q_o_o, Ts.q_od_v, Ts.q_od_o, Ts.q_ods_n, Ts.q_ods_c, Ts.q_sv_v, Ts.q_sv_l, Ts.q_own_l, Ts.q_isl_l, Ts.q_vs_v, Ts.q_vs_l, Ts.q_e_v, Ts.q_e_k, Ts.q_e_g, Ts.q_e_bin, Ts.q_e_neg, Ts.q_e_cmp, Ts.q_e_cmp2, Ts.q_e_and, Ts.q_e_or, Ts.q_e_not, Ts.q_e_ite, Ts.q_e_tup, Ts.q_e_lst, Ts.q_e_ix, Ts.q_e_sl, Ts.q_e_call, Ts.q_e_bi, Ts.q_e_mt, Ts.q_e_dic, Ts.q_e_dce, Ts.q_e_lrng, Ts.q_e_ise, Ts.q_es_n, Ts.q_es_c, Ts.q_os_n, Ts.q_os_c, Ts.q_oe_n, Ts.q_oe_s, Ts.q_if_n, Ts.q_if_s, Ts.q_it_of, Ts.q_it_r1, Ts.q_it_r2, Ts.q_it_en, Ts.q_it_z2, Ts.q_it_z3, Ts.q_nt_l, Ts.q_nt_s, Ts.q_im_s, Ts.q_im_l, Ts.q_im_t, Ts.q_s_set, Ts.q_s_new, Ts.q_s_unp, Ts.q_s_app, Ts.q_s_seti, Ts.q_s_ret, Ts.q_s_retn, Ts.q_s_ife, Ts.q_s_ex, Ts.q_s_pas, Ts.q_s_brk, Ts.q_s_cnt, Ts.q_s_rse, Ts.q_s_tri, Ts.q_ss_n, Ts.q_ss_c, Ts.q_tg_x, Ts.q_tg_xs, Ts.q_st_n, Ts.q_st_c, Ts.q_b_add_i, Ts.q_b_add_s, Ts.q_b_add_l, Ts.q_b_add_t, Ts.q_b_sub_i, Ts.q_b_mul_i, Ts.q_b_mul_s, Ts.q_b_fdiv_i, Ts.q_b_mod_i, Ts.q_b_pow_i, Ts.q_c_eq_a, Ts.q_c_ne_a, Ts.q_c_lt_i, Ts.q_c_le_i, Ts.q_c_gt_i, Ts.q_c_ge_i, Ts.q_c_is_b, Ts.q_c_isn_b, Ts.q_c_in__s, Ts.q_c_nin_s, Ts.q_c_in__t_int, Ts.q_c_nin_t_int, Ts.q_c_in__t_str, Ts.q_c_nin_t_str, Ts.q_c_in__t_bl, Ts.q_c_nin_t_bl, Ts.q_c_is_n, Ts.q_c_isn_n, Ts.q_c_in__l, Ts.q_c_nin_l, Ts.q_nn_non, Ts.q_nn_bl, Ts.q_nn_int, Ts.q_nn_str, Ts.q_nn_tup, Ts.q_nn_lst, Ts.q_nn_dct, Ts.q_i_s, Ts.q_i_l, Ts.q_i_t, Ts.q_sl_s, Ts.q_sl_l, Ts.q_sl_t, Ts.q_f_len_s, Ts.q_f_len_l, Ts.q_f_len_t, Ts.q_f_abs, Ts.q_f_int_i, Ts.q_f_int_b, Ts.q_f_str, Ts.q_f_list_l, Ts.q_f_list_t, Ts.q_f_tup_l, Ts.q_f_tup_t, Ts.q_f_sum, Ts.q_f_all, Ts.q_f_any, Ts.q_f_max2, Ts.q_f_min2, Ts.q_f_maxl, Ts.q_f_minl, Ts.q_f_isi, Ts.q_m_join, Ts.q_m_upper, Ts.q_m_lower, Ts.q_m_islower, Ts.q_m_isupper, Ts.q_m_isdigit, Ts.q_m_isalnum, Ts.q_m_split, Ts.q_isstr, Ts.q_ni_non, Ts.q_is_str_non, Ts.q_is_tuple_non, Ts.q_is_int_non, Ts.q_is_bool_non, Ts.q_is_list_non, Ts.q_ni_bl, Ts.q_is_str_bl, Ts.q_is_tuple_bl, Ts.q_is_int_bl, Ts.q_is_bool_bl, Ts.q_is_list_bl, Ts.q_ni_int, Ts.q_is_str_int, Ts.q_is_tuple_int, Ts.q_is_int_int, Ts.q_is_bool_int, Ts.q_is_list_int, Ts.q_ni_str, Ts.q_is_str_str, Ts.q_is_tuple_str, Ts.q_is_int_str, Ts.q_is_bool_str, Ts.q_is_list_str, Ts.q_ni_tup, Ts.q_is_str_tup, Ts.q_is_tuple_tup, Ts.q_is_int_tup, Ts.q_is_bool_tup, Ts.q_is_list_tup, Ts.q_ni_lst, Ts.q_is_str_lst, Ts.q_is_tuple_lst, Ts.q_is_int_lst, Ts.q_is_bool_lst, Ts.q_is_list_lst, Ts.q_ni_dct, Ts.q_is_str_dct, Ts.q_is_tuple_dct, Ts.q_is_int_dct, Ts.q_is_bool_dct, Ts.q_is_list_dct, Ts.q_s_for, Ts.q_s_whl, Ts.q_e_lc, Option.some.injEq, exists_eq_left', exists_eq_left, D.bl.injEq, D.int.injEq, D.str.injEq, D.lst.injEq, D.tup.injEq, Ts.Sl.lst.injEq, List.map_cons, List.map_nil, List.length_cons, List.length_nil, List.getElem?_cons_zero, List.getElem?_cons_succ, List.set_cons_zero, List.set_cons_succ, and_true, true_and, exists_and_left, if_true, if_false, Bool.false_eq_true, reduceIte, reduceCtorEq, Bool.not_true, Bool.not_false]
      refine ⟨oke, by decide, ?_⟩
      by_cases hb : ed = eBehind
      · rw [if_pos (by rw [hb]; rfl)]
        refine ⟨_, atI_dN hm, ?_⟩
        simp only [Ts.q_o_v, Ts.q_o_k, Ts.q_o_g, Ts.q_o_bin, Ts.q_o_neg, Ts.q_o_cmp, Ts.q_o_cmp2, Ts.q_o_and, Ts.q_o_or, Ts.q_o_not, Ts.q_o_ite, Ts.q_o_tup, Ts.q_o_lst, Ts.q_o_ix, Ts.q_o_sl, Ts.q_o_call, Ts.q_o_bi, Ts.q_o_mt, Ts.q_o_lc, Ts.q_o_lrng, Ts.q_o_dic, Ts.q_o_dce, Ts.q_o_ise, Ts.q_o_o, Ts.q_od_v, Ts.q_od_o, Ts.q_ods_n, Ts.q_ods_c, Ts.q_sv_v, Ts.q_sv_l, Ts.q_own_l, Ts.q_isl_l, Ts.q_vs_v, Ts.q_vs_l, Ts.q_e_v, Ts.q_e_k, Ts.q_e_g, Ts.q_e_bin, Ts.q_e_neg, Ts.q_e_cmp, Ts.q_e_cmp2, Ts.q_e_and, Ts.q_e_or, Ts.q_e_not, Ts.q_e_ite, Ts.q_e_tup, Ts.q_e_lst, Ts.q_e_ix, Ts.q_e_sl, Ts.q_e_call, Ts.q_e_bi, Ts.q_e_mt, Ts.q_e_dic, Ts.q_e_dce, Ts.q_e_lrng, Ts.q_e_ise, Ts.q_es_n, Ts.q_es_c, Ts.q_os_n, Ts.q_os_c, Ts.q_oe_n, Ts.q_oe_s, Ts.q_if_n, Ts.q_if_s, Ts.q_it_of, Ts.q_it_r1, Ts.q_it_r2, Ts.q_it_en, Ts.q_it_z2, Ts.q_it_z3, Ts.q_nt_l, Ts.q_nt_s, Ts.q_im_s, Ts.q_im_l, Ts.q_im_t, Ts.q_s_set, Ts.q_s_new, Ts.q_s_unp, Ts.q_s_app, Ts.q_s_seti, Ts.q_s_ret, Ts.q_s_retn, Ts.q_s_ife, Ts.q_s_ex, Ts.q_s_pas, Ts.q_s_brk, Ts.q_s_cnt, Ts.q_s_rse, Ts.q_s_tri, Ts.q_ss_n, Ts.q_ss_c, Ts.q_tg_x, Ts.q_tg_xs, Ts.q_st_n, Ts.q_st_c, Ts.q_b_add_i, Ts.q_b_add_s, Ts.q_b_add_l, Ts.q_b_add_t, Ts.q_b_sub_i, Ts.q_b_mul_i, Ts.q_b_mul_s, Ts.q_b_fdiv_i, Ts.q_b_mod_i, Ts.q_b_pow_i, Ts.q_c_eq_a, Ts.q_c_ne_a, Ts.q_c_lt_i, Ts.q_c_le_i, Ts.q_c_gt_i, Ts.q_c_ge_i, Ts.q_c_is_b, Ts.q_c_isn_b, Ts.q_c_in__s, Ts.q_c_nin_s, Ts.q_c_in__t_int, Ts.q_c_nin_t_int, Ts.q_c_in__t_str, Ts.q_c_nin_t_str, Ts.q_c_in__t_bl, Ts.q_c_nin_t_bl, Ts.q_c_is_n, Ts.q_c_isn_n, Ts.q_c_in__l, Ts.q_c_nin_l, Ts.q_nn_non, Ts.q_nn_bl, Ts.q_nn_int, Ts.q_nn_str, Ts.q_nn_tup, Ts.q_nn_lst, Ts.q_nn_dct, Ts.q_i_s, Ts.q_i_l, Ts.q_i_t, Ts.q_sl_s, Ts.q_sl_l, Ts.q_sl_t, Ts.q_f_len_s, Ts.q_f_len_l, Ts.q_f_len_t, Ts.q_f_abs, Ts.q_f_int_i, Ts.q_f_int_b, Ts.q_f_str, Ts.q_f_list_l, Ts.q_f_list_t, Ts.q_f_tup_l, Ts.q_f_tup_t, Ts.q_f_sum, Ts.q_f_all, Ts.q_f_any, Ts.q_f_max2, Ts.q_f_min2, Ts.q_f_maxl, Ts.q_f_minl, Ts.q_f_isi, Ts.q_m_join, Ts.q_m_upper, Ts.q_m_lower, Ts.q_m_islower, Ts.q_m_isupper, Ts.q_m_isdigit, Ts.q_m_isalnum, Ts.q_m_split, Ts.q_isstr, Ts.q_ni_non, Ts.q_is_str_non, Ts.q_is_tuple_non, Ts.q_is_int_non, Ts.q_is_bool_non, Ts.q_is_list_non, Ts.q_ni_bl, Ts.q_is_str_bl, Ts.q_is_tuple_bl, Ts.q_is_int_bl, Ts.q_is_bool_bl, Ts.q_is_list_bl, Ts.q_ni_int, Ts.q_is_str_int, Ts.q_is_tuple_int, Ts.q_is_int_int, Ts.q_is_bool_int, Ts.q_is_list_int, Ts.q_ni_str, Ts.q_is_str_str, Ts.q_is_tuple_str, Ts.q_is_int_str, Ts.q_is_bool_str, Ts.q_is_list_str, Ts.q_ni_tup, Ts.q_is_str_tup, Ts.q_is_tuple_tup, Ts.q_is_int_tup, Ts.q_is_bool_tup, Ts.q_is_list_tup, Ts.q_ni_lst, Ts.q_is_str_lst, Ts.q_is_tuple_lst, Ts.q_is_int_lst, Ts.q_is_bool_lst, Ts.q_is_list_lst, Ts.q_ni_dct, Ts.q_is_str_dct, Ts.q_is_tuple_dct, Ts.q_is_int_dct, Ts.q_is_bool_dct, Ts.q_is_list_dct, Ts.q_s_for, Ts.q_s_whl, Ts.q_e_lc, Option.some.injEq, exists_eq_left', exists_eq_left, D.bl.injEq, D.int.injEq, D.str.injEq, D.lst.injEq, D.tup.injEq, Ts.Sl.lst.injEq, List.map_cons, List.map_nil, List.length_cons, List.length_nil, List.getElem?_cons_zero, List.getElem?_cons_succ, List.set_cons_zero, List.set_cons_succ, and_true, true_and, exists_and_left, if_true, if_false, Bool.false_eq_true, reduceIte, reduceCtorEq, Bool.not_true, Bool.not_false]
        exact e _ _ (by rw [Option.map_some, if_pos hb]; rfl)
      · rw [if_neg (by simp only [beq_iff_eq]; exact hb)]
        refine ⟨_, atI_dN hm, e _ _ (by rw [Option.map_some, if_neg hb]; rfl)⟩
    simp only [b_spot_by_1, Ts.q_o_v, Ts.q_o_k, Ts.q_o_g, Ts.q_o_bin, Ts.q_o_neg, Ts.q_o_cmp, Ts.q_o_cmp2, Ts.q_o_and, Ts.q_o_or, Ts.q_o_not, Ts.q_o_ite, Ts.q_o_tup, Ts.q_o_lst, Ts.q_o_ix, Ts.q_o_sl, Ts.q_o_call, Ts.q_o_bi, Ts.q_o_mt, Ts.q_o_lc, Ts.q_o_lrng, Ts.q_o_dic, Ts.q_o_dce, Ts.q_o_ise, Ts.q_o_o, Ts.q_od_v, Ts.q_od_o, Ts.q_ods_n, Ts.q_ods_c, Ts.q_sv_v, Ts.q_sv_l, Ts.q_own_l, Ts.q_isl_l, Ts.q_vs_v, Ts.q_vs_l, Ts.q_e_v, Ts.q_e_k, Ts.q_e_g, Ts.q_e_bin, Ts.q_e_neg, Ts.q_e_cmp, Ts.q_e_cmp2, Ts.q_e_and, Ts.q_e_or, Ts.q_e_not, Ts.q_e_ite, Ts.q_e_tup, Ts.q_e_lst, Ts.q_e_ix, Ts.q_e_sl, Ts.q_e_call, Ts.q_e_bi, Ts.q_e_mt, Ts.q_e_dic, Ts.q_e_dce, Ts.q_e_lrng, Ts.q_e_ise, Ts.q_es_n, Ts.q_es_c, Ts.q_os_n, Ts.q_os_c, Ts.q_oe_n, Ts.q_oe_s, Ts.q_if_n, Ts.q_if_s, Ts.q_it_of, Ts.q_it_r1, Ts.q_it_r2, Ts.q_it_en, Ts.q_it_z2, Ts.q_it_z3, Ts.q_nt_l, Ts.q_nt_s, Ts.q_im_s, Ts.q_im_l, Ts.q_im_t, Ts.q_s_set, Ts.q_s_new, Ts.q_s_unp, Ts.q_s_app, Ts.q_s_seti, Ts.q_s_ret, Ts.q_s_retn, Ts.q_s_ife, Ts.q_s_ex, Ts.q_s_pas, Ts.q_s_brk, Ts.q_s_cnt, Ts.q_s_rse, Ts.q_s_tri, Ts.q_ss_n, Ts.q_ss_c, Ts.q_tg_x, Ts.q_tg_xs, Ts.q_st_n, Ts.q_st_c, Ts.q_b_add_i, Ts.q_b_add_s, Ts.q_b_add_l, Ts.q_b_add_t, Ts.q_b_sub_i, Ts.q_b_mul_i, Ts.q_b_mul_s, Ts.q_b_fdiv_i, Ts.q_b_mod_i, Ts.q_b_pow_i, Ts.q_c_eq_a, Ts.q_c_ne_a, Ts.q_c_lt_i, Ts.q_c_le_i, Ts.q_c_gt_i, Ts.q_c_ge_i, Ts.q_c_is_b, Ts.q_c_isn_b, Ts.q_c_in__s, Ts.q_c_nin_s, Ts.q_c_in__t_int, Ts.q_c_nin_t_int, Ts.q_c_in__t_str, Ts.q_c_nin_t_str, Ts.q_c_in__t_bl, Ts.q_c_nin_t_bl, Ts.q_c_is_n, Ts.q_c_isn_n, Ts.q_c_in__l, Ts.q_c_nin_l, Ts.q_nn_non, Ts.q_nn_bl, Ts.q_nn_int, Ts.q_nn_str, Ts.q_nn_tup, Ts.q_nn_lst, Ts.q_nn_dct, Ts.q_i_s, Ts.q_i_l, Ts.q_i_t, Ts.q_sl_s, Ts.q_sl_l, Ts.q_sl_t, Ts.q_f_len_s, Ts.q_f_len_l, Ts.q_f_len_t, Ts.q_f_abs, Ts.q_f_int_i, Ts.q_f_int_b, Ts.q_f_str, Ts.q_f_list_l, Ts.q_f_list_t, Ts.q_f_tup_l, Ts.q_f_tup_t, Ts.q_f_sum, Ts.q_f_all, Ts.q_f_any, Ts.q_f_max2, Ts.q_f_min2, Ts.q_f_maxl, Ts.q_f_minl, Ts.q_f_isi, Ts.q_m_join, Ts.q_m_upper, Ts.q_m_lower, Ts.q_m_islower, Ts.q_m_isupper, Ts.q_m_isdigit, Ts.q_m_isalnum, Ts.q_m_split, Ts.q_isstr, Ts.q_ni_non, Ts.q_is_str_non, Ts.q_is_tuple_non, Ts.q_is_int_non, Ts.q_is_bool_non, Ts.q_is_list_non, Ts.q_ni_bl, Ts.q_is_str_bl, Ts.q_is_tuple_bl, Ts.q_is_int_bl, Ts.q_is_bool_bl, Ts.q_is_list_bl, Ts.q_ni_int, Ts.q_is_str_int, Ts.q_is_tuple_int, Ts.q_is_int_int, Ts.q_is_bool_int, Ts.q_is_list_int, Ts.q_ni_str, Ts.q_is_str_str, Ts.q_is_tuple_str, Ts.q_is_int_str, Ts.q_is_bool_str, Ts.q_is_list_str, Ts.q_ni_tup, Ts.q_is_str_tup, Ts.q_is_tuple_tup, Ts.q_is_int_tup, Ts.q_is_bool_tup, Ts.q_is_list_tup, Ts.q_ni_lst, Ts.q_is_str_lst, Ts.q_is_tuple_lst, Ts.q_is_int_lst, Ts.q_is_bool_lst, Ts.q_is_list_lst, Ts.q_ni_dct, Ts.q_is_str_dct, Ts.q_is_tuple_dct, Ts.q_is_int_dct, Ts.q_is_bool_dct, Ts.q_is_list_dct, Ts.q_s_for, Ts.q_s_whl, Ts.q_e_lc, Option.some.injEq, exists_eq_left', exists_eq_left, D.bl.injEq, D.int.injEq, D.str.injEq, D.lst.injEq, D.tup.injEq, Ts.Sl.lst.injEq, List.map_cons, List.map_nil, List.length_cons, List.length_nil, List.getElem?_cons_zero, List.getElem?_cons_succ, List.set_cons_zero, List.set_cons_succ, and_true, true_and, exists_and_left, if_true, if_false, Bool.false_eq_true, reduceIte, reduceCtorEq, Bool.not_true, Bool.not_false]
    by_cases hp : 0 < n
    · rw [if_pos (decide_eq_true hp)]
      rw [if_pos hp] at h2
      exact rest _ h2
    · rw [if_neg (by simpa using hp)]
      rw [if_neg hp] at h2
      exact rest _ h2
def sp_spot : PSpec := { ar := 2, G := Plc × List Nat, pre := fun g ds => ds = [dPl g.1, .str g.2] ∧ g.1.ok ∧ Tx g.2 ∧ g.2.length ≤ 100, ret := fun g r => r = dO (spotT g.1 g.2) }
theorem r_spot {g d} : sp_spot.ret g d = (d = dO (spotT g.1 g.2)) := rfl
theorem x_spot {g c} : sp_spot.exc g c = False := rfl
def m_spot : Sm := { fn := [sp_spot_by, sp_standings], cn := [] }
theorem w_spot (g : Plc × List Nat) (ds : List D) (hl : ds.length = 2) (hp : sp_spot.pre g ds) : wpSs m_spot b_spot (rho0 2 ds) (pt sp_spot g) := by
  obtain ⟨p, t⟩ := g
  obtain ⟨rfl, ⟨h1, h2, h3⟩, ht, hn⟩ := hp
  rw [show rho0 2 [dPl p, D.str t] = [.val (.tup [.str p.kind, .int p.nth, .str p.edge]), .val (.str t)] from rfl]
  simp only [b_spot, m_spot, at0, at1, at2, x_spot_by, r_spot_by, x_standings, r_standings, forall_eq, false_implies, implies_true, Ts.q_o_v, Ts.q_o_k, Ts.q_o_g, Ts.q_o_bin, Ts.q_o_neg, Ts.q_o_cmp, Ts.q_o_cmp2, Ts.q_o_and, Ts.q_o_or, Ts.q_o_not, Ts.q_o_ite, Ts.q_o_tup, Ts.q_o_lst, Ts.q_o_ix, Ts.q_o_sl, Ts.q_o_call, Ts.q_o_bi, Ts.q_o_mt, Ts.q_o_lc, Ts.q_o_lrng, Ts.q_o_dic, Ts.q_o_dce, Ts.q_o_ise, Ts.q_o_o, Ts.q_od_v, Ts.q_od_o, Ts.q_ods_n, Ts.q_ods_c, Ts.q_sv_v, Ts.q_sv_l, Ts.q_own_l, Ts.q_isl_l, Ts.q_vs_v, Ts.q_vs_l, Ts.q_e_v, Ts.q_e_k, Ts.q_e_g, Ts.q_e_bin, Ts.q_e_neg, Ts.q_e_cmp, Ts.q_e_cmp2, Ts.q_e_and, Ts.q_e_or, Ts.q_e_not, Ts.q_e_ite, Ts.q_e_tup, Ts.q_e_lst, Ts.q_e_ix, Ts.q_e_sl, Ts.q_e_call, Ts.q_e_bi, Ts.q_e_mt, Ts.q_e_dic, Ts.q_e_dce, Ts.q_e_lrng, Ts.q_e_ise, Ts.q_es_n, Ts.q_es_c, Ts.q_os_n, Ts.q_os_c, Ts.q_oe_n, Ts.q_oe_s, Ts.q_if_n, Ts.q_if_s, Ts.q_it_of, Ts.q_it_r1, Ts.q_it_r2, Ts.q_it_en, Ts.q_it_z2, Ts.q_it_z3, Ts.q_nt_l, Ts.q_nt_s, Ts.q_im_s, Ts.q_im_l, Ts.q_im_t, Ts.q_s_set, Ts.q_s_new, Ts.q_s_unp, Ts.q_s_app, Ts.q_s_seti, Ts.q_s_ret, Ts.q_s_retn, Ts.q_s_ife, Ts.q_s_ex, Ts.q_s_pas, Ts.q_s_brk, Ts.q_s_cnt, Ts.q_s_rse, Ts.q_s_tri, Ts.q_ss_n, Ts.q_ss_c, Ts.q_tg_x, Ts.q_tg_xs, Ts.q_st_n, Ts.q_st_c, Ts.q_b_add_i, Ts.q_b_add_s, Ts.q_b_add_l, Ts.q_b_add_t, Ts.q_b_sub_i, Ts.q_b_mul_i, Ts.q_b_mul_s, Ts.q_b_fdiv_i, Ts.q_b_mod_i, Ts.q_b_pow_i, Ts.q_c_eq_a, Ts.q_c_ne_a, Ts.q_c_lt_i, Ts.q_c_le_i, Ts.q_c_gt_i, Ts.q_c_ge_i, Ts.q_c_is_b, Ts.q_c_isn_b, Ts.q_c_in__s, Ts.q_c_nin_s, Ts.q_c_in__t_int, Ts.q_c_nin_t_int, Ts.q_c_in__t_str, Ts.q_c_nin_t_str, Ts.q_c_in__t_bl, Ts.q_c_nin_t_bl, Ts.q_c_is_n, Ts.q_c_isn_n, Ts.q_c_in__l, Ts.q_c_nin_l, Ts.q_nn_non, Ts.q_nn_bl, Ts.q_nn_int, Ts.q_nn_str, Ts.q_nn_tup, Ts.q_nn_lst, Ts.q_nn_dct, Ts.q_i_s, Ts.q_i_l, Ts.q_i_t, Ts.q_sl_s, Ts.q_sl_l, Ts.q_sl_t, Ts.q_f_len_s, Ts.q_f_len_l, Ts.q_f_len_t, Ts.q_f_abs, Ts.q_f_int_i, Ts.q_f_int_b, Ts.q_f_str, Ts.q_f_list_l, Ts.q_f_list_t, Ts.q_f_tup_l, Ts.q_f_tup_t, Ts.q_f_sum, Ts.q_f_all, Ts.q_f_any, Ts.q_f_max2, Ts.q_f_min2, Ts.q_f_maxl, Ts.q_f_minl, Ts.q_f_isi, Ts.q_m_join, Ts.q_m_upper, Ts.q_m_lower, Ts.q_m_islower, Ts.q_m_isupper, Ts.q_m_isdigit, Ts.q_m_isalnum, Ts.q_m_split, Ts.q_isstr, Ts.q_ni_non, Ts.q_is_str_non, Ts.q_is_tuple_non, Ts.q_is_int_non, Ts.q_is_bool_non, Ts.q_is_list_non, Ts.q_ni_bl, Ts.q_is_str_bl, Ts.q_is_tuple_bl, Ts.q_is_int_bl, Ts.q_is_bool_bl, Ts.q_is_list_bl, Ts.q_ni_int, Ts.q_is_str_int, Ts.q_is_tuple_int, Ts.q_is_int_int, Ts.q_is_bool_int, Ts.q_is_list_int, Ts.q_ni_str, Ts.q_is_str_str, Ts.q_is_tuple_str, Ts.q_is_int_str, Ts.q_is_bool_str, Ts.q_is_list_str, Ts.q_ni_tup, Ts.q_is_str_tup, Ts.q_is_tuple_tup, Ts.q_is_int_tup, Ts.q_is_bool_tup, Ts.q_is_list_tup, Ts.q_ni_lst, Ts.q_is_str_lst, Ts.q_is_tuple_lst, Ts.q_is_int_lst, Ts.q_is_bool_lst, Ts.q_is_list_lst, Ts.q_ni_dct, Ts.q_is_str_dct, Ts.q_is_tuple_dct, Ts.q_is_int_dct, Ts.q_is_bool_dct, Ts.q_is_list_dct, Ts.q_s_for, Ts.q_s_whl, Ts.q_e_lc, Option.some.injEq, exists_eq_left', exists_eq_left, D.bl.injEq, D.int.injEq, D.str.injEq, D.lst.injEq, D.tup.injEq, Ts.Sl.lst.injEq, List.map_cons, List.map_nil, List.length_cons, List.length_nil, List.getElem?_cons_zero, List.getElem?_cons_succ, List.set_cons_zero, List.set_cons_succ, and_true, true_and, exists_and_left, if_true, if_false, Bool.false_eq_true, reduceIte, reduceCtorEq, Bool.not_true, Bool.not_false]
  refine ⟨rfl, (p.kind, t), ⟨rfl, h1, ht, hn⟩, rfl, (stands p.kind t, p.nth, p.edge), ⟨rfl, h2, h3⟩, rfl⟩
end Lb
set_option Elab.async false
set_option linter.all false
set_option maxRecDepth 100000
set_option maxHeartbeats 1000000
/-! Lb: cells, texts, places, the laws' own spot. -/
namespace Lb
open PySem Ts
/-! ### cells -/
open Builtin.Int in
def BI (ns : List Int) : Prop := ∀ n ∈ ns, intBits n ≤ 1048576
def dI (ns : List Int) : D := .lst (ns.map .int)
def sp_cell : PSpec := { ar := 2, G := List Int × Int, pre := fun g ds => ds = [dI g.1, .int g.2] ∧ Rn 1048576 g.2 ∧ BI g.1, ret := fun _ r => ∃ c : Int, r = .int c ∧ Rn (10 ^ 40) c }
theorem x_cell {g c} : sp_cell.exc g c = False := rfl
theorem r_cell {g} {Φ : D → Prop} : (∀ d, sp_cell.ret g d → Φ d) = ∀ c : Int, Rn (10 ^ 40) c → Φ (.int c) := propext ⟨fun h c h0 => h _ ⟨c, rfl, h0⟩, fun h d ⟨c, e, h0⟩ => by rw [e]; exact h c h0⟩
def m_cell : Sm := { fn := [], cn := [] }
open Builtin.Int in
theorem w_cell (g : List Int × Int) (ds : List D) (hl : ds.length = 2) (hp : sp_cell.pre g ds) : wpSs m_cell b__law_cell (rho0 3 ds) (pt sp_cell g) := by
  obtain ⟨ns, k⟩ := g
  obtain ⟨rfl, ⟨h0, h1⟩, hb⟩ := hp
  have h0 : 0 ≤ k := h0
  have h1 : k < 1048576 := h1
  have hb : BI ns := hb
  have e : ∀ (c : Int) ρ, 0 ≤ c → c < 10 ^ 40 → (pt sp_cell (ns, k)).rt (.int c) ρ := fun c ρ g0 g1 => ⟨c, rfl, g0, g1⟩
  rw [show rho0 3 [dI ns, .int k] = [.val (.lst (ns.map .int)), .val (.int k), .no] from rfl]
  generalize pt sp_cell (ns, k) = P at e ⊢
  have fin : ∀ (x : Int) ρ, P.rt (.int (x % 10 ^ Int.toNat 40)) ρ := fun x ρ => e _ _ (Int.emod_nonneg _ (by decide)) (Int.emod_lt_of_pos _ (by decide))
  have pw : PowOk 10 40 := ⟨by decide, by decide, by decide, by decide⟩
  have p0 : (0 : Int) < 10 ^ Int.toNat 40 := by decide
  have itm : ∀ i : Int, 0 ≤ i → i < ns.length → ∃ n, n ∈ ns ∧ L2.atI (ns.map D.int) i = some (.int n) := fun i g0 g1 => by
    obtain ⟨d, e1, e2⟩ := atI_pos (xs := ns.map D.int) g0 (by simpa using g1)
    rw [List.getElem?_map] at e2
    cases hn : ns[i.toNat]? with
    | none => rw [hn] at e2; cases e2
    | some n => rw [hn] at e2; cases e2; exact ⟨n, List.mem_of_getElem? hn, e1⟩
  simp only [b__law_cell, m_cell, Ts.q_o_v, Ts.q_o_k, Ts.q_o_g, Ts.q_o_bin, Ts.q_o_neg, Ts.q_o_cmp, Ts.q_o_cmp2, Ts.q_o_and, Ts.q_o_or, Ts.q_o_not, Ts.q_o_ite, Ts.q_o_tup, Ts.q_o_lst, Ts.q_o_ix, Ts.q_o_sl, Ts.q_o_call, Ts.q_o_bi, Ts.q_o_mt, Ts.q_o_lc, Ts.q_o_lrng, Ts.q_o_dic, Ts.q_o_dce, Ts.q_o_ise, Ts.q_o_o, Ts.q_od_v, Ts.q_od_o, Ts.q_ods_n, Ts.q_ods_c, Ts.q_sv_v, Ts.q_sv_l, Ts.q_own_l, Ts.q_isl_l, Ts.q_vs_v, Ts.q_vs_l, Ts.q_e_v, Ts.q_e_k, Ts.q_e_g, Ts.q_e_bin, Ts.q_e_neg, Ts.q_e_cmp, Ts.q_e_cmp2, Ts.q_e_and, Ts.q_e_or, Ts.q_e_not, Ts.q_e_ite, Ts.q_e_tup, Ts.q_e_lst, Ts.q_e_ix, Ts.q_e_sl, Ts.q_e_call, Ts.q_e_bi, Ts.q_e_mt, Ts.q_e_dic, Ts.q_e_dce, Ts.q_e_lrng, Ts.q_e_ise, Ts.q_es_n, Ts.q_es_c, Ts.q_os_n, Ts.q_os_c, Ts.q_oe_n, Ts.q_oe_s, Ts.q_if_n, Ts.q_if_s, Ts.q_it_of, Ts.q_it_r1, Ts.q_it_r2, Ts.q_it_en, Ts.q_it_z2, Ts.q_it_z3, Ts.q_nt_l, Ts.q_nt_s, Ts.q_im_s, Ts.q_im_l, Ts.q_im_t, Ts.q_s_set, Ts.q_s_new, Ts.q_s_unp, Ts.q_s_app, Ts.q_s_seti, Ts.q_s_ret, Ts.q_s_retn, Ts.q_s_ife, Ts.q_s_ex, Ts.q_s_pas, Ts.q_s_brk, Ts.q_s_cnt, Ts.q_s_rse, Ts.q_s_tri, Ts.q_ss_n, Ts.q_ss_c, Ts.q_tg_x, Ts.q_tg_xs, Ts.q_st_n, Ts.q_st_c, Ts.q_b_add_i, Ts.q_b_add_s, Ts.q_b_add_l, Ts.q_b_add_t, Ts.q_b_sub_i, Ts.q_b_mul_i, Ts.q_b_mul_s, Ts.q_b_fdiv_i, Ts.q_b_mod_i, Ts.q_b_pow_i, Ts.q_c_eq_a, Ts.q_c_ne_a, Ts.q_c_lt_i, Ts.q_c_le_i, Ts.q_c_gt_i, Ts.q_c_ge_i, Ts.q_c_is_b, Ts.q_c_isn_b, Ts.q_c_in__s, Ts.q_c_nin_s, Ts.q_c_in__t_int, Ts.q_c_nin_t_int, Ts.q_c_in__t_str, Ts.q_c_nin_t_str, Ts.q_c_in__t_bl, Ts.q_c_nin_t_bl, Ts.q_c_is_n, Ts.q_c_isn_n, Ts.q_c_in__l, Ts.q_c_nin_l, Ts.q_nn_non, Ts.q_nn_bl, Ts.q_nn_int, Ts.q_nn_str, Ts.q_nn_tup, Ts.q_nn_lst, Ts.q_nn_dct, Ts.q_i_s, Ts.q_i_l, Ts.q_i_t, Ts.q_sl_s, Ts.q_sl_l, Ts.q_sl_t, Ts.q_f_len_s, Ts.q_f_len_l, Ts.q_f_len_t, Ts.q_f_abs, Ts.q_f_int_i, Ts.q_f_int_b, Ts.q_f_str, Ts.q_f_list_l, Ts.q_f_list_t, Ts.q_f_tup_l, Ts.q_f_tup_t, Ts.q_f_sum, Ts.q_f_all, Ts.q_f_any, Ts.q_f_max2, Ts.q_f_min2, Ts.q_f_maxl, Ts.q_f_minl, Ts.q_f_isi, Ts.q_m_join, Ts.q_m_upper, Ts.q_m_lower, Ts.q_m_islower, Ts.q_m_isupper, Ts.q_m_isdigit, Ts.q_m_isalnum, Ts.q_m_split, Ts.q_isstr, Ts.q_ni_non, Ts.q_is_str_non, Ts.q_is_tuple_non, Ts.q_is_int_non, Ts.q_is_bool_non, Ts.q_is_list_non, Ts.q_ni_bl, Ts.q_is_str_bl, Ts.q_is_tuple_bl, Ts.q_is_int_bl, Ts.q_is_bool_bl, Ts.q_is_list_bl, Ts.q_ni_int, Ts.q_is_str_int, Ts.q_is_tuple_int, Ts.q_is_int_int, Ts.q_is_bool_int, Ts.q_is_list_int, Ts.q_ni_str, Ts.q_is_str_str, Ts.q_is_tuple_str, Ts.q_is_int_str, Ts.q_is_bool_str, Ts.q_is_list_str, Ts.q_ni_tup, Ts.q_is_str_tup, Ts.q_is_tuple_tup, Ts.q_is_int_tup, Ts.q_is_bool_tup, Ts.q_is_list_tup, Ts.q_ni_lst, Ts.q_is_str_lst, Ts.q_is_tuple_lst, Ts.q_is_int_lst, Ts.q_is_bool_lst, Ts.q_is_list_lst, Ts.q_ni_dct, Ts.q_is_str_dct, Ts.q_is_tuple_dct, Ts.q_is_int_dct, Ts.q_is_bool_dct, Ts.q_is_list_dct, Ts.q_s_for, Ts.q_s_whl, Ts.q_e_lc, Option.some.injEq, exists_eq_left', exists_eq_left, D.bl.injEq, D.int.injEq, D.str.injEq, D.lst.injEq, D.tup.injEq, Ts.Sl.lst.injEq, List.map_cons, List.map_nil, List.length_cons, List.length_nil, List.getElem?_cons_zero, List.getElem?_cons_succ, List.set_cons_zero, List.set_cons_succ, and_true, true_and, exists_and_left, if_true, if_false, Bool.false_eq_true, reduceIte, reduceCtorEq, Bool.not_true, Bool.not_false, List.length_map]
  by_cases hk : k < ns.length
  · rw [if_pos (decide_eq_true hk)]
    obtain ⟨n, hn, en⟩ := itm k h0 hk
    refine ⟨.int n, en, ?_⟩
    simp only [Ts.q_o_v, Ts.q_o_k, Ts.q_o_g, Ts.q_o_bin, Ts.q_o_neg, Ts.q_o_cmp, Ts.q_o_cmp2, Ts.q_o_and, Ts.q_o_or, Ts.q_o_not, Ts.q_o_ite, Ts.q_o_tup, Ts.q_o_lst, Ts.q_o_ix, Ts.q_o_sl, Ts.q_o_call, Ts.q_o_bi, Ts.q_o_mt, Ts.q_o_lc, Ts.q_o_lrng, Ts.q_o_dic, Ts.q_o_dce, Ts.q_o_ise, Ts.q_o_o, Ts.q_od_v, Ts.q_od_o, Ts.q_ods_n, Ts.q_ods_c, Ts.q_sv_v, Ts.q_sv_l, Ts.q_own_l, Ts.q_isl_l, Ts.q_vs_v, Ts.q_vs_l, Ts.q_e_v, Ts.q_e_k, Ts.q_e_g, Ts.q_e_bin, Ts.q_e_neg, Ts.q_e_cmp, Ts.q_e_cmp2, Ts.q_e_and, Ts.q_e_or, Ts.q_e_not, Ts.q_e_ite, Ts.q_e_tup, Ts.q_e_lst, Ts.q_e_ix, Ts.q_e_sl, Ts.q_e_call, Ts.q_e_bi, Ts.q_e_mt, Ts.q_e_dic, Ts.q_e_dce, Ts.q_e_lrng, Ts.q_e_ise, Ts.q_es_n, Ts.q_es_c, Ts.q_os_n, Ts.q_os_c, Ts.q_oe_n, Ts.q_oe_s, Ts.q_if_n, Ts.q_if_s, Ts.q_it_of, Ts.q_it_r1, Ts.q_it_r2, Ts.q_it_en, Ts.q_it_z2, Ts.q_it_z3, Ts.q_nt_l, Ts.q_nt_s, Ts.q_im_s, Ts.q_im_l, Ts.q_im_t, Ts.q_s_set, Ts.q_s_new, Ts.q_s_unp, Ts.q_s_app, Ts.q_s_seti, Ts.q_s_ret, Ts.q_s_retn, Ts.q_s_ife, Ts.q_s_ex, Ts.q_s_pas, Ts.q_s_brk, Ts.q_s_cnt, Ts.q_s_rse, Ts.q_s_tri, Ts.q_ss_n, Ts.q_ss_c, Ts.q_tg_x, Ts.q_tg_xs, Ts.q_st_n, Ts.q_st_c, Ts.q_b_add_i, Ts.q_b_add_s, Ts.q_b_add_l, Ts.q_b_add_t, Ts.q_b_sub_i, Ts.q_b_mul_i, Ts.q_b_mul_s, Ts.q_b_fdiv_i, Ts.q_b_mod_i, Ts.q_b_pow_i, Ts.q_c_eq_a, Ts.q_c_ne_a, Ts.q_c_lt_i, Ts.q_c_le_i, Ts.q_c_gt_i, Ts.q_c_ge_i, Ts.q_c_is_b, Ts.q_c_isn_b, Ts.q_c_in__s, Ts.q_c_nin_s, Ts.q_c_in__t_int, Ts.q_c_nin_t_int, Ts.q_c_in__t_str, Ts.q_c_nin_t_str, Ts.q_c_in__t_bl, Ts.q_c_nin_t_bl, Ts.q_c_is_n, Ts.q_c_isn_n, Ts.q_c_in__l, Ts.q_c_nin_l, Ts.q_nn_non, Ts.q_nn_bl, Ts.q_nn_int, Ts.q_nn_str, Ts.q_nn_tup, Ts.q_nn_lst, Ts.q_nn_dct, Ts.q_i_s, Ts.q_i_l, Ts.q_i_t, Ts.q_sl_s, Ts.q_sl_l, Ts.q_sl_t, Ts.q_f_len_s, Ts.q_f_len_l, Ts.q_f_len_t, Ts.q_f_abs, Ts.q_f_int_i, Ts.q_f_int_b, Ts.q_f_str, Ts.q_f_list_l, Ts.q_f_list_t, Ts.q_f_tup_l, Ts.q_f_tup_t, Ts.q_f_sum, Ts.q_f_all, Ts.q_f_any, Ts.q_f_max2, Ts.q_f_min2, Ts.q_f_maxl, Ts.q_f_minl, Ts.q_f_isi, Ts.q_m_join, Ts.q_m_upper, Ts.q_m_lower, Ts.q_m_islower, Ts.q_m_isupper, Ts.q_m_isdigit, Ts.q_m_isalnum, Ts.q_m_split, Ts.q_isstr, Ts.q_ni_non, Ts.q_is_str_non, Ts.q_is_tuple_non, Ts.q_is_int_non, Ts.q_is_bool_non, Ts.q_is_list_non, Ts.q_ni_bl, Ts.q_is_str_bl, Ts.q_is_tuple_bl, Ts.q_is_int_bl, Ts.q_is_bool_bl, Ts.q_is_list_bl, Ts.q_ni_int, Ts.q_is_str_int, Ts.q_is_tuple_int, Ts.q_is_int_int, Ts.q_is_bool_int, Ts.q_is_list_int, Ts.q_ni_str, Ts.q_is_str_str, Ts.q_is_tuple_str, Ts.q_is_int_str, Ts.q_is_bool_str, Ts.q_is_list_str, Ts.q_ni_tup, Ts.q_is_str_tup, Ts.q_is_tuple_tup, Ts.q_is_int_tup, Ts.q_is_bool_tup, Ts.q_is_list_tup, Ts.q_ni_lst, Ts.q_is_str_lst, Ts.q_is_tuple_lst, Ts.q_is_int_lst, Ts.q_is_bool_lst, Ts.q_is_list_lst, Ts.q_ni_dct, Ts.q_is_str_dct, Ts.q_is_tuple_dct, Ts.q_is_int_dct, Ts.q_is_bool_dct, Ts.q_is_list_dct, Ts.q_s_for, Ts.q_s_whl, Ts.q_e_lc, Option.some.injEq, exists_eq_left', exists_eq_left, D.bl.injEq, D.int.injEq, D.str.injEq, D.lst.injEq, D.tup.injEq, Ts.Sl.lst.injEq, List.map_cons, List.map_nil, List.length_cons, List.length_nil, List.getElem?_cons_zero, List.getElem?_cons_succ, List.set_cons_zero, List.set_cons_succ, and_true, true_and, exists_and_left, if_true, if_false, Bool.false_eq_true, reduceIte, reduceCtorEq, Bool.not_true, Bool.not_false]
    refine ⟨mul_ok (intBits_add_le (hb n hn) (bits_nat (m := 64) (by decide) (by decide))) (bits_nat (m := 256) (by decide) (by decide)) (by decide), pw, p0, fin _ _⟩
  · rw [if_neg (by simpa using hk)]
    simp only [b__law_cell_1, Ts.q_o_v, Ts.q_o_k, Ts.q_o_g, Ts.q_o_bin, Ts.q_o_neg, Ts.q_o_cmp, Ts.q_o_cmp2, Ts.q_o_and, Ts.q_o_or, Ts.q_o_not, Ts.q_o_ite, Ts.q_o_tup, Ts.q_o_lst, Ts.q_o_ix, Ts.q_o_sl, Ts.q_o_call, Ts.q_o_bi, Ts.q_o_mt, Ts.q_o_lc, Ts.q_o_lrng, Ts.q_o_dic, Ts.q_o_dce, Ts.q_o_ise, Ts.q_o_o, Ts.q_od_v, Ts.q_od_o, Ts.q_ods_n, Ts.q_ods_c, Ts.q_sv_v, Ts.q_sv_l, Ts.q_own_l, Ts.q_isl_l, Ts.q_vs_v, Ts.q_vs_l, Ts.q_e_v, Ts.q_e_k, Ts.q_e_g, Ts.q_e_bin, Ts.q_e_neg, Ts.q_e_cmp, Ts.q_e_cmp2, Ts.q_e_and, Ts.q_e_or, Ts.q_e_not, Ts.q_e_ite, Ts.q_e_tup, Ts.q_e_lst, Ts.q_e_ix, Ts.q_e_sl, Ts.q_e_call, Ts.q_e_bi, Ts.q_e_mt, Ts.q_e_dic, Ts.q_e_dce, Ts.q_e_lrng, Ts.q_e_ise, Ts.q_es_n, Ts.q_es_c, Ts.q_os_n, Ts.q_os_c, Ts.q_oe_n, Ts.q_oe_s, Ts.q_if_n, Ts.q_if_s, Ts.q_it_of, Ts.q_it_r1, Ts.q_it_r2, Ts.q_it_en, Ts.q_it_z2, Ts.q_it_z3, Ts.q_nt_l, Ts.q_nt_s, Ts.q_im_s, Ts.q_im_l, Ts.q_im_t, Ts.q_s_set, Ts.q_s_new, Ts.q_s_unp, Ts.q_s_app, Ts.q_s_seti, Ts.q_s_ret, Ts.q_s_retn, Ts.q_s_ife, Ts.q_s_ex, Ts.q_s_pas, Ts.q_s_brk, Ts.q_s_cnt, Ts.q_s_rse, Ts.q_s_tri, Ts.q_ss_n, Ts.q_ss_c, Ts.q_tg_x, Ts.q_tg_xs, Ts.q_st_n, Ts.q_st_c, Ts.q_b_add_i, Ts.q_b_add_s, Ts.q_b_add_l, Ts.q_b_add_t, Ts.q_b_sub_i, Ts.q_b_mul_i, Ts.q_b_mul_s, Ts.q_b_fdiv_i, Ts.q_b_mod_i, Ts.q_b_pow_i, Ts.q_c_eq_a, Ts.q_c_ne_a, Ts.q_c_lt_i, Ts.q_c_le_i, Ts.q_c_gt_i, Ts.q_c_ge_i, Ts.q_c_is_b, Ts.q_c_isn_b, Ts.q_c_in__s, Ts.q_c_nin_s, Ts.q_c_in__t_int, Ts.q_c_nin_t_int, Ts.q_c_in__t_str, Ts.q_c_nin_t_str, Ts.q_c_in__t_bl, Ts.q_c_nin_t_bl, Ts.q_c_is_n, Ts.q_c_isn_n, Ts.q_c_in__l, Ts.q_c_nin_l, Ts.q_nn_non, Ts.q_nn_bl, Ts.q_nn_int, Ts.q_nn_str, Ts.q_nn_tup, Ts.q_nn_lst, Ts.q_nn_dct, Ts.q_i_s, Ts.q_i_l, Ts.q_i_t, Ts.q_sl_s, Ts.q_sl_l, Ts.q_sl_t, Ts.q_f_len_s, Ts.q_f_len_l, Ts.q_f_len_t, Ts.q_f_abs, Ts.q_f_int_i, Ts.q_f_int_b, Ts.q_f_str, Ts.q_f_list_l, Ts.q_f_list_t, Ts.q_f_tup_l, Ts.q_f_tup_t, Ts.q_f_sum, Ts.q_f_all, Ts.q_f_any, Ts.q_f_max2, Ts.q_f_min2, Ts.q_f_maxl, Ts.q_f_minl, Ts.q_f_isi, Ts.q_m_join, Ts.q_m_upper, Ts.q_m_lower, Ts.q_m_islower, Ts.q_m_isupper, Ts.q_m_isdigit, Ts.q_m_isalnum, Ts.q_m_split, Ts.q_isstr, Ts.q_ni_non, Ts.q_is_str_non, Ts.q_is_tuple_non, Ts.q_is_int_non, Ts.q_is_bool_non, Ts.q_is_list_non, Ts.q_ni_bl, Ts.q_is_str_bl, Ts.q_is_tuple_bl, Ts.q_is_int_bl, Ts.q_is_bool_bl, Ts.q_is_list_bl, Ts.q_ni_int, Ts.q_is_str_int, Ts.q_is_tuple_int, Ts.q_is_int_int, Ts.q_is_bool_int, Ts.q_is_list_int, Ts.q_ni_str, Ts.q_is_str_str, Ts.q_is_tuple_str, Ts.q_is_int_str, Ts.q_is_bool_str, Ts.q_is_list_str, Ts.q_ni_tup, Ts.q_is_str_tup, Ts.q_is_tuple_tup, Ts.q_is_int_tup, Ts.q_is_bool_tup, Ts.q_is_list_tup, Ts.q_ni_lst, Ts.q_is_str_lst, Ts.q_is_tuple_lst, Ts.q_is_int_lst, Ts.q_is_bool_lst, Ts.q_is_list_lst, Ts.q_ni_dct, Ts.q_is_str_dct, Ts.q_is_tuple_dct, Ts.q_is_int_dct, Ts.q_is_bool_dct, Ts.q_is_list_dct, Ts.q_s_for, Ts.q_s_whl, Ts.q_e_lc, Option.some.injEq, exists_eq_left', exists_eq_left, D.bl.injEq, D.int.injEq, D.str.injEq, D.lst.injEq, D.tup.injEq, Ts.Sl.lst.injEq, List.map_cons, List.map_nil, List.length_cons, List.length_nil, List.getElem?_cons_zero, List.getElem?_cons_succ, List.set_cons_zero, List.set_cons_succ, and_true, true_and, exists_and_left, if_true, if_false, Bool.false_eq_true, reduceIte, reduceCtorEq, Bool.not_true, Bool.not_false]
    have kk : 0 ≤ k * k := Int.mul_nonneg h0 h0
    have kb : intBits k ≤ 20 := bits_nat h0 (by simpa using h1)
    refine ⟨mul_ok kb kb (by decide), mul_ok (intBits_mul_le kb kb) (bits_nat (m := 64) (by decide) (by decide)) (by decide), ?_⟩
    have nb : intBits (k * k * 7919 + 5) ≤ 105 := intBits_add_le (m := 104) (n := 64) (intBits_mul_le (n := 64) (intBits_mul_le kb kb) (bits_nat (by decide) (by decide))) (bits_nat (by decide) (by decide))
    have rest : ∀ x : Int, intBits x ≤ 2000 → wpSs { fn := [], cn := [] } b__law_cell_3 [.val (.lst (ns.map .int)), .val (.int k), .val (.int x)] P := fun x hx => by
      simp only [b__law_cell_3, Ts.q_o_v, Ts.q_o_k, Ts.q_o_g, Ts.q_o_bin, Ts.q_o_neg, Ts.q_o_cmp, Ts.q_o_cmp2, Ts.q_o_and, Ts.q_o_or, Ts.q_o_not, Ts.q_o_ite, Ts.q_o_tup, Ts.q_o_lst, Ts.q_o_ix, Ts.q_o_sl, Ts.q_o_call, Ts.q_o_bi, Ts.q_o_mt, Ts.q_o_lc, Ts.q_o_lrng, Ts.q_o_dic, Ts.q_o_dce, Ts.q_o_ise, Ts.q_o_o, Ts.q_od_v, Ts.q_od_o, Ts.q_ods_n, Ts.q_ods_c, Ts.q_sv_v, Ts.q_sv_l, Ts.q_own_l, Ts.q_isl_l, Ts.q_vs_v, Ts.q_vs_l, Ts.q_e_v, Ts.q_e_k, Ts.q_e_g, Ts.q_e_bin, Ts.q_e_neg, Ts.q_e_cmp, Ts.q_e_cmp2, Ts.q_e_and, Ts.q_e_or, Ts.q_e_not, Ts.q_e_ite, Ts.q_e_tup, Ts.q_e_lst, Ts.q_e_ix, Ts.q_e_sl, Ts.q_e_call, Ts.q_e_bi, Ts.q_e_mt, Ts.q_e_dic, Ts.q_e_dce, Ts.q_e_lrng, Ts.q_e_ise, Ts.q_es_n, Ts.q_es_c, Ts.q_os_n, Ts.q_os_c, Ts.q_oe_n, Ts.q_oe_s, Ts.q_if_n, Ts.q_if_s, Ts.q_it_of, Ts.q_it_r1, Ts.q_it_r2, Ts.q_it_en, Ts.q_it_z2, Ts.q_it_z3, Ts.q_nt_l, Ts.q_nt_s, Ts.q_im_s, Ts.q_im_l, Ts.q_im_t, Ts.q_s_set, Ts.q_s_new, Ts.q_s_unp, Ts.q_s_app, Ts.q_s_seti, Ts.q_s_ret, Ts.q_s_retn, Ts.q_s_ife, Ts.q_s_ex, Ts.q_s_pas, Ts.q_s_brk, Ts.q_s_cnt, Ts.q_s_rse, Ts.q_s_tri, Ts.q_ss_n, Ts.q_ss_c, Ts.q_tg_x, Ts.q_tg_xs, Ts.q_st_n, Ts.q_st_c, Ts.q_b_add_i, Ts.q_b_add_s, Ts.q_b_add_l, Ts.q_b_add_t, Ts.q_b_sub_i, Ts.q_b_mul_i, Ts.q_b_mul_s, Ts.q_b_fdiv_i, Ts.q_b_mod_i, Ts.q_b_pow_i, Ts.q_c_eq_a, Ts.q_c_ne_a, Ts.q_c_lt_i, Ts.q_c_le_i, Ts.q_c_gt_i, Ts.q_c_ge_i, Ts.q_c_is_b, Ts.q_c_isn_b, Ts.q_c_in__s, Ts.q_c_nin_s, Ts.q_c_in__t_int, Ts.q_c_nin_t_int, Ts.q_c_in__t_str, Ts.q_c_nin_t_str, Ts.q_c_in__t_bl, Ts.q_c_nin_t_bl, Ts.q_c_is_n, Ts.q_c_isn_n, Ts.q_c_in__l, Ts.q_c_nin_l, Ts.q_nn_non, Ts.q_nn_bl, Ts.q_nn_int, Ts.q_nn_str, Ts.q_nn_tup, Ts.q_nn_lst, Ts.q_nn_dct, Ts.q_i_s, Ts.q_i_l, Ts.q_i_t, Ts.q_sl_s, Ts.q_sl_l, Ts.q_sl_t, Ts.q_f_len_s, Ts.q_f_len_l, Ts.q_f_len_t, Ts.q_f_abs, Ts.q_f_int_i, Ts.q_f_int_b, Ts.q_f_str, Ts.q_f_list_l, Ts.q_f_list_t, Ts.q_f_tup_l, Ts.q_f_tup_t, Ts.q_f_sum, Ts.q_f_all, Ts.q_f_any, Ts.q_f_max2, Ts.q_f_min2, Ts.q_f_maxl, Ts.q_f_minl, Ts.q_f_isi, Ts.q_m_join, Ts.q_m_upper, Ts.q_m_lower, Ts.q_m_islower, Ts.q_m_isupper, Ts.q_m_isdigit, Ts.q_m_isalnum, Ts.q_m_split, Ts.q_isstr, Ts.q_ni_non, Ts.q_is_str_non, Ts.q_is_tuple_non, Ts.q_is_int_non, Ts.q_is_bool_non, Ts.q_is_list_non, Ts.q_ni_bl, Ts.q_is_str_bl, Ts.q_is_tuple_bl, Ts.q_is_int_bl, Ts.q_is_bool_bl, Ts.q_is_list_bl, Ts.q_ni_int, Ts.q_is_str_int, Ts.q_is_tuple_int, Ts.q_is_int_int, Ts.q_is_bool_int, Ts.q_is_list_int, Ts.q_ni_str, Ts.q_is_str_str, Ts.q_is_tuple_str, Ts.q_is_int_str, Ts.q_is_bool_str, Ts.q_is_list_str, Ts.q_ni_tup, Ts.q_is_str_tup, Ts.q_is_tuple_tup, Ts.q_is_int_tup, Ts.q_is_bool_tup, Ts.q_is_list_tup, Ts.q_ni_lst, Ts.q_is_str_lst, Ts.q_is_tuple_lst, Ts.q_is_int_lst, Ts.q_is_bool_lst, Ts.q_is_list_lst, Ts.q_ni_dct, Ts.q_is_str_dct, Ts.q_is_tuple_dct, Ts.q_is_int_dct, Ts.q_is_bool_dct, Ts.q_is_list_dct, Ts.q_s_for, Ts.q_s_whl, Ts.q_e_lc, Option.some.injEq, exists_eq_left', exists_eq_left, D.bl.injEq, D.int.injEq, D.str.injEq, D.lst.injEq, D.tup.injEq, Ts.Sl.lst.injEq, List.map_cons, List.map_nil, List.length_cons, List.length_nil, List.getElem?_cons_zero, List.getElem?_cons_succ, List.set_cons_zero, List.set_cons_succ, and_true, true_and, exists_and_left, if_true, if_false, Bool.false_eq_true, reduceIte, reduceCtorEq, Bool.not_true, Bool.not_false]
      refine ⟨mul_ok hx hx (by decide), by decide, mul_ok (bits_nat (m := 64) (Int.emod_nonneg _ (by decide)) (Int.lt_trans (Int.emod_lt_of_pos _ (by decide)) (by decide))) (bits_nat (m := 256) (by decide) (by decide)) (by decide), pw, p0, fin _ _⟩
    generalize k * k * 7919 + 5 = z at nb ⊢
    simp only [b__law_cell_2, Ts.q_o_v, Ts.q_o_k, Ts.q_o_g, Ts.q_o_bin, Ts.q_o_neg, Ts.q_o_cmp, Ts.q_o_cmp2, Ts.q_o_and, Ts.q_o_or, Ts.q_o_not, Ts.q_o_ite, Ts.q_o_tup, Ts.q_o_lst, Ts.q_o_ix, Ts.q_o_sl, Ts.q_o_call, Ts.q_o_bi, Ts.q_o_mt, Ts.q_o_lc, Ts.q_o_lrng, Ts.q_o_dic, Ts.q_o_dce, Ts.q_o_ise, Ts.q_o_o, Ts.q_od_v, Ts.q_od_o, Ts.q_ods_n, Ts.q_ods_c, Ts.q_sv_v, Ts.q_sv_l, Ts.q_own_l, Ts.q_isl_l, Ts.q_vs_v, Ts.q_vs_l, Ts.q_e_v, Ts.q_e_k, Ts.q_e_g, Ts.q_e_bin, Ts.q_e_neg, Ts.q_e_cmp, Ts.q_e_cmp2, Ts.q_e_and, Ts.q_e_or, Ts.q_e_not, Ts.q_e_ite, Ts.q_e_tup, Ts.q_e_lst, Ts.q_e_ix, Ts.q_e_sl, Ts.q_e_call, Ts.q_e_bi, Ts.q_e_mt, Ts.q_e_dic, Ts.q_e_dce, Ts.q_e_lrng, Ts.q_e_ise, Ts.q_es_n, Ts.q_es_c, Ts.q_os_n, Ts.q_os_c, Ts.q_oe_n, Ts.q_oe_s, Ts.q_if_n, Ts.q_if_s, Ts.q_it_of, Ts.q_it_r1, Ts.q_it_r2, Ts.q_it_en, Ts.q_it_z2, Ts.q_it_z3, Ts.q_nt_l, Ts.q_nt_s, Ts.q_im_s, Ts.q_im_l, Ts.q_im_t, Ts.q_s_set, Ts.q_s_new, Ts.q_s_unp, Ts.q_s_app, Ts.q_s_seti, Ts.q_s_ret, Ts.q_s_retn, Ts.q_s_ife, Ts.q_s_ex, Ts.q_s_pas, Ts.q_s_brk, Ts.q_s_cnt, Ts.q_s_rse, Ts.q_s_tri, Ts.q_ss_n, Ts.q_ss_c, Ts.q_tg_x, Ts.q_tg_xs, Ts.q_st_n, Ts.q_st_c, Ts.q_b_add_i, Ts.q_b_add_s, Ts.q_b_add_l, Ts.q_b_add_t, Ts.q_b_sub_i, Ts.q_b_mul_i, Ts.q_b_mul_s, Ts.q_b_fdiv_i, Ts.q_b_mod_i, Ts.q_b_pow_i, Ts.q_c_eq_a, Ts.q_c_ne_a, Ts.q_c_lt_i, Ts.q_c_le_i, Ts.q_c_gt_i, Ts.q_c_ge_i, Ts.q_c_is_b, Ts.q_c_isn_b, Ts.q_c_in__s, Ts.q_c_nin_s, Ts.q_c_in__t_int, Ts.q_c_nin_t_int, Ts.q_c_in__t_str, Ts.q_c_nin_t_str, Ts.q_c_in__t_bl, Ts.q_c_nin_t_bl, Ts.q_c_is_n, Ts.q_c_isn_n, Ts.q_c_in__l, Ts.q_c_nin_l, Ts.q_nn_non, Ts.q_nn_bl, Ts.q_nn_int, Ts.q_nn_str, Ts.q_nn_tup, Ts.q_nn_lst, Ts.q_nn_dct, Ts.q_i_s, Ts.q_i_l, Ts.q_i_t, Ts.q_sl_s, Ts.q_sl_l, Ts.q_sl_t, Ts.q_f_len_s, Ts.q_f_len_l, Ts.q_f_len_t, Ts.q_f_abs, Ts.q_f_int_i, Ts.q_f_int_b, Ts.q_f_str, Ts.q_f_list_l, Ts.q_f_list_t, Ts.q_f_tup_l, Ts.q_f_tup_t, Ts.q_f_sum, Ts.q_f_all, Ts.q_f_any, Ts.q_f_max2, Ts.q_f_min2, Ts.q_f_maxl, Ts.q_f_minl, Ts.q_f_isi, Ts.q_m_join, Ts.q_m_upper, Ts.q_m_lower, Ts.q_m_islower, Ts.q_m_isupper, Ts.q_m_isdigit, Ts.q_m_isalnum, Ts.q_m_split, Ts.q_isstr, Ts.q_ni_non, Ts.q_is_str_non, Ts.q_is_tuple_non, Ts.q_is_int_non, Ts.q_is_bool_non, Ts.q_is_list_non, Ts.q_ni_bl, Ts.q_is_str_bl, Ts.q_is_tuple_bl, Ts.q_is_int_bl, Ts.q_is_bool_bl, Ts.q_is_list_bl, Ts.q_ni_int, Ts.q_is_str_int, Ts.q_is_tuple_int, Ts.q_is_int_int, Ts.q_is_bool_int, Ts.q_is_list_int, Ts.q_ni_str, Ts.q_is_str_str, Ts.q_is_tuple_str, Ts.q_is_int_str, Ts.q_is_bool_str, Ts.q_is_list_str, Ts.q_ni_tup, Ts.q_is_str_tup, Ts.q_is_tuple_tup, Ts.q_is_int_tup, Ts.q_is_bool_tup, Ts.q_is_list_tup, Ts.q_ni_lst, Ts.q_is_str_lst, Ts.q_is_tuple_lst, Ts.q_is_int_lst, Ts.q_is_bool_lst, Ts.q_is_list_lst, Ts.q_ni_dct, Ts.q_is_str_dct, Ts.q_is_tuple_dct, Ts.q_is_int_dct, Ts.q_is_bool_dct, Ts.q_is_list_dct, Ts.q_s_for, Ts.q_s_whl, Ts.q_e_lc, Option.some.injEq, exists_eq_left', exists_eq_left, D.bl.injEq, D.int.injEq, D.str.injEq, D.lst.injEq, D.tup.injEq, Ts.Sl.lst.injEq, List.map_cons, List.map_nil, List.length_cons, List.length_nil, List.getElem?_cons_zero, List.getElem?_cons_succ, List.set_cons_zero, List.set_cons_succ, and_true, true_and, exists_and_left, if_true, if_false, Bool.false_eq_true, reduceIte, reduceCtorEq, Bool.not_true, Bool.not_false, List.length_map]
    by_cases hp : (0 : Int) < ns.length
    · rw [if_pos (decide_eq_true hp)]
      refine ⟨mul_ok kb (bits_nat (m := 64) (by decide) (by decide)) (by decide), hp, ?_⟩
      obtain ⟨n, hn, en⟩ := itm (k * 7 % ns.length) (Int.emod_nonneg _ (by omega)) (Int.emod_lt_of_pos _ hp)
      refine ⟨.int n, en, ?_⟩
      simp only [Ts.q_o_v, Ts.q_o_k, Ts.q_o_g, Ts.q_o_bin, Ts.q_o_neg, Ts.q_o_cmp, Ts.q_o_cmp2, Ts.q_o_and, Ts.q_o_or, Ts.q_o_not, Ts.q_o_ite, Ts.q_o_tup, Ts.q_o_lst, Ts.q_o_ix, Ts.q_o_sl, Ts.q_o_call, Ts.q_o_bi, Ts.q_o_mt, Ts.q_o_lc, Ts.q_o_lrng, Ts.q_o_dic, Ts.q_o_dce, Ts.q_o_ise, Ts.q_o_o, Ts.q_od_v, Ts.q_od_o, Ts.q_ods_n, Ts.q_ods_c, Ts.q_sv_v, Ts.q_sv_l, Ts.q_own_l, Ts.q_isl_l, Ts.q_vs_v, Ts.q_vs_l, Ts.q_e_v, Ts.q_e_k, Ts.q_e_g, Ts.q_e_bin, Ts.q_e_neg, Ts.q_e_cmp, Ts.q_e_cmp2, Ts.q_e_and, Ts.q_e_or, Ts.q_e_not, Ts.q_e_ite, Ts.q_e_tup, Ts.q_e_lst, Ts.q_e_ix, Ts.q_e_sl, Ts.q_e_call, Ts.q_e_bi, Ts.q_e_mt, Ts.q_e_dic, Ts.q_e_dce, Ts.q_e_lrng, Ts.q_e_ise, Ts.q_es_n, Ts.q_es_c, Ts.q_os_n, Ts.q_os_c, Ts.q_oe_n, Ts.q_oe_s, Ts.q_if_n, Ts.q_if_s, Ts.q_it_of, Ts.q_it_r1, Ts.q_it_r2, Ts.q_it_en, Ts.q_it_z2, Ts.q_it_z3, Ts.q_nt_l, Ts.q_nt_s, Ts.q_im_s, Ts.q_im_l, Ts.q_im_t, Ts.q_s_set, Ts.q_s_new, Ts.q_s_unp, Ts.q_s_app, Ts.q_s_seti, Ts.q_s_ret, Ts.q_s_retn, Ts.q_s_ife, Ts.q_s_ex, Ts.q_s_pas, Ts.q_s_brk, Ts.q_s_cnt, Ts.q_s_rse, Ts.q_s_tri, Ts.q_ss_n, Ts.q_ss_c, Ts.q_tg_x, Ts.q_tg_xs, Ts.q_st_n, Ts.q_st_c, Ts.q_b_add_i, Ts.q_b_add_s, Ts.q_b_add_l, Ts.q_b_add_t, Ts.q_b_sub_i, Ts.q_b_mul_i, Ts.q_b_mul_s, Ts.q_b_fdiv_i, Ts.q_b_mod_i, Ts.q_b_pow_i, Ts.q_c_eq_a, Ts.q_c_ne_a, Ts.q_c_lt_i, Ts.q_c_le_i, Ts.q_c_gt_i, Ts.q_c_ge_i, Ts.q_c_is_b, Ts.q_c_isn_b, Ts.q_c_in__s, Ts.q_c_nin_s, Ts.q_c_in__t_int, Ts.q_c_nin_t_int, Ts.q_c_in__t_str, Ts.q_c_nin_t_str, Ts.q_c_in__t_bl, Ts.q_c_nin_t_bl, Ts.q_c_is_n, Ts.q_c_isn_n, Ts.q_c_in__l, Ts.q_c_nin_l, Ts.q_nn_non, Ts.q_nn_bl, Ts.q_nn_int, Ts.q_nn_str, Ts.q_nn_tup, Ts.q_nn_lst, Ts.q_nn_dct, Ts.q_i_s, Ts.q_i_l, Ts.q_i_t, Ts.q_sl_s, Ts.q_sl_l, Ts.q_sl_t, Ts.q_f_len_s, Ts.q_f_len_l, Ts.q_f_len_t, Ts.q_f_abs, Ts.q_f_int_i, Ts.q_f_int_b, Ts.q_f_str, Ts.q_f_list_l, Ts.q_f_list_t, Ts.q_f_tup_l, Ts.q_f_tup_t, Ts.q_f_sum, Ts.q_f_all, Ts.q_f_any, Ts.q_f_max2, Ts.q_f_min2, Ts.q_f_maxl, Ts.q_f_minl, Ts.q_f_isi, Ts.q_m_join, Ts.q_m_upper, Ts.q_m_lower, Ts.q_m_islower, Ts.q_m_isupper, Ts.q_m_isdigit, Ts.q_m_isalnum, Ts.q_m_split, Ts.q_isstr, Ts.q_ni_non, Ts.q_is_str_non, Ts.q_is_tuple_non, Ts.q_is_int_non, Ts.q_is_bool_non, Ts.q_is_list_non, Ts.q_ni_bl, Ts.q_is_str_bl, Ts.q_is_tuple_bl, Ts.q_is_int_bl, Ts.q_is_bool_bl, Ts.q_is_list_bl, Ts.q_ni_int, Ts.q_is_str_int, Ts.q_is_tuple_int, Ts.q_is_int_int, Ts.q_is_bool_int, Ts.q_is_list_int, Ts.q_ni_str, Ts.q_is_str_str, Ts.q_is_tuple_str, Ts.q_is_int_str, Ts.q_is_bool_str, Ts.q_is_list_str, Ts.q_ni_tup, Ts.q_is_str_tup, Ts.q_is_tuple_tup, Ts.q_is_int_tup, Ts.q_is_bool_tup, Ts.q_is_list_tup, Ts.q_ni_lst, Ts.q_is_str_lst, Ts.q_is_tuple_lst, Ts.q_is_int_lst, Ts.q_is_bool_lst, Ts.q_is_list_lst, Ts.q_ni_dct, Ts.q_is_str_dct, Ts.q_is_tuple_dct, Ts.q_is_int_dct, Ts.q_is_bool_dct, Ts.q_is_list_dct, Ts.q_s_for, Ts.q_s_whl, Ts.q_e_lc, Option.some.injEq, exists_eq_left', exists_eq_left, D.bl.injEq, D.int.injEq, D.str.injEq, D.lst.injEq, D.tup.injEq, Ts.Sl.lst.injEq, List.map_cons, List.map_nil, List.length_cons, List.length_nil, List.getElem?_cons_zero, List.getElem?_cons_succ, List.set_cons_zero, List.set_cons_succ, and_true, true_and, exists_and_left, if_true, if_false, Bool.false_eq_true, reduceIte, reduceCtorEq, Bool.not_true, Bool.not_false]
      have mb : intBits (n % 10 ^ Int.toNat 40) ≤ 256 := bits_nat (Int.emod_nonneg _ (by decide)) (Int.lt_trans (Int.emod_lt_of_pos _ (by decide)) (by decide))
      refine ⟨pw, p0, mul_ok mb (bits_nat (m := 64) (by decide) (by decide)) (by decide), rest _ (Nat.le_trans (intBits_add_le (m := 105) (n := 320) nb (intBits_mul_le (n := 64) mb (bits_nat (by decide) (by decide)))) (by decide))⟩
    · rw [if_neg (by simpa using hp)]
      exact rest z (Nat.le_trans nb (by decide))
/-! ### texts -/
def ALLS : List Nat := SMALL ++ GREAT ++ FIGS ++ [32, 45, 46, 44, 47]
def TS : List (List Nat) := [[97, 98, 65, 66, 49, 50, 32, 45], [97, 66, 32, 49], [97, 97, 98], ALLS]
theorem ts_ok : ∀ s ∈ TS, 0 < s.length ∧ s.length ≤ 67 ∧ ∀ c ∈ s, c ∈ SIGNS := by decide +kernel
def sp_text : PSpec := { ar := 2, G := Int × Int, pre := fun g ds => ds = [.int g.1, .int g.2] ∧ 0 ≤ g.2 ∧ g.2 ≤ 100, ret := fun g r => ∃ s, r = .str s ∧ Tx s ∧ (s.length : Int) ≤ g.2 }
theorem x_text {g c} : sp_text.exc g c = False := rfl
theorem r_text {g} {Φ : D → Prop} : (∀ d, sp_text.ret g d → Φ d) = ∀ s : List Nat, Tx s → (s.length : Int) ≤ g.2 → Φ (.str s) := propext ⟨fun h c h0 h1 => h _ ⟨c, rfl, h0, h1⟩, fun h d ⟨c, e, h0, h1⟩ => by rw [e]; exact h c h0 h1⟩
def m_text : Sm := { fn := [], cn := [] }
theorem w_text (g : Int × Int) (ds : List D) (hl : ds.length = 2) (hp : sp_text.pre g ds) : wpSs m_text b__law_text (rho0 7 ds) (pt sp_text g) := by
  obtain ⟨c, m⟩ := g
  obtain ⟨rfl, m0, m1⟩ := hp
  have m0 : 0 ≤ m := m0
  have m1 : m ≤ 100 := m1
  have e : ∀ (s : List Nat) ρ, Tx s → (s.length : Int) ≤ m → (pt sp_text (c, m)).rt (.str s) ρ := fun s ρ h0 h1 => ⟨s, rfl, h0, h1⟩
  rw [show rho0 7 [D.int c, D.int m] = [.val (.int c), .val (.int m), .no, .no, .no, .no, .no] from rfl]
  generalize pt sp_text (c, m) = P at e ⊢
  simp only [b__law_text, b__law_text_1, m_text, Ts.q_o_v, Ts.q_o_k, Ts.q_o_g, Ts.q_o_bin, Ts.q_o_neg, Ts.q_o_cmp, Ts.q_o_cmp2, Ts.q_o_and, Ts.q_o_or, Ts.q_o_not, Ts.q_o_ite, Ts.q_o_tup, Ts.q_o_lst, Ts.q_o_ix, Ts.q_o_sl, Ts.q_o_call, Ts.q_o_bi, Ts.q_o_mt, Ts.q_o_lc, Ts.q_o_lrng, Ts.q_o_dic, Ts.q_o_dce, Ts.q_o_ise, Ts.q_o_o, Ts.q_od_v, Ts.q_od_o, Ts.q_ods_n, Ts.q_ods_c, Ts.q_sv_v, Ts.q_sv_l, Ts.q_own_l, Ts.q_isl_l, Ts.q_vs_v, Ts.q_vs_l, Ts.q_e_v, Ts.q_e_k, Ts.q_e_g, Ts.q_e_bin, Ts.q_e_neg, Ts.q_e_cmp, Ts.q_e_cmp2, Ts.q_e_and, Ts.q_e_or, Ts.q_e_not, Ts.q_e_ite, Ts.q_e_tup, Ts.q_e_lst, Ts.q_e_ix, Ts.q_e_sl, Ts.q_e_call, Ts.q_e_bi, Ts.q_e_mt, Ts.q_e_dic, Ts.q_e_dce, Ts.q_e_lrng, Ts.q_e_ise, Ts.q_es_n, Ts.q_es_c, Ts.q_os_n, Ts.q_os_c, Ts.q_oe_n, Ts.q_oe_s, Ts.q_if_n, Ts.q_if_s, Ts.q_it_of, Ts.q_it_r1, Ts.q_it_r2, Ts.q_it_en, Ts.q_it_z2, Ts.q_it_z3, Ts.q_nt_l, Ts.q_nt_s, Ts.q_im_s, Ts.q_im_l, Ts.q_im_t, Ts.q_s_set, Ts.q_s_new, Ts.q_s_unp, Ts.q_s_app, Ts.q_s_seti, Ts.q_s_ret, Ts.q_s_retn, Ts.q_s_ife, Ts.q_s_ex, Ts.q_s_pas, Ts.q_s_brk, Ts.q_s_cnt, Ts.q_s_rse, Ts.q_s_tri, Ts.q_ss_n, Ts.q_ss_c, Ts.q_tg_x, Ts.q_tg_xs, Ts.q_st_n, Ts.q_st_c, Ts.q_b_add_i, Ts.q_b_add_s, Ts.q_b_add_l, Ts.q_b_add_t, Ts.q_b_sub_i, Ts.q_b_mul_i, Ts.q_b_mul_s, Ts.q_b_fdiv_i, Ts.q_b_mod_i, Ts.q_b_pow_i, Ts.q_c_eq_a, Ts.q_c_ne_a, Ts.q_c_lt_i, Ts.q_c_le_i, Ts.q_c_gt_i, Ts.q_c_ge_i, Ts.q_c_is_b, Ts.q_c_isn_b, Ts.q_c_in__s, Ts.q_c_nin_s, Ts.q_c_in__t_int, Ts.q_c_nin_t_int, Ts.q_c_in__t_str, Ts.q_c_nin_t_str, Ts.q_c_in__t_bl, Ts.q_c_nin_t_bl, Ts.q_c_is_n, Ts.q_c_isn_n, Ts.q_c_in__l, Ts.q_c_nin_l, Ts.q_nn_non, Ts.q_nn_bl, Ts.q_nn_int, Ts.q_nn_str, Ts.q_nn_tup, Ts.q_nn_lst, Ts.q_nn_dct, Ts.q_i_s, Ts.q_i_l, Ts.q_i_t, Ts.q_sl_s, Ts.q_sl_l, Ts.q_sl_t, Ts.q_f_len_s, Ts.q_f_len_l, Ts.q_f_len_t, Ts.q_f_abs, Ts.q_f_int_i, Ts.q_f_int_b, Ts.q_f_str, Ts.q_f_list_l, Ts.q_f_list_t, Ts.q_f_tup_l, Ts.q_f_tup_t, Ts.q_f_sum, Ts.q_f_all, Ts.q_f_any, Ts.q_f_max2, Ts.q_f_min2, Ts.q_f_maxl, Ts.q_f_minl, Ts.q_f_isi, Ts.q_m_join, Ts.q_m_upper, Ts.q_m_lower, Ts.q_m_islower, Ts.q_m_isupper, Ts.q_m_isdigit, Ts.q_m_isalnum, Ts.q_m_split, Ts.q_isstr, Ts.q_ni_non, Ts.q_is_str_non, Ts.q_is_tuple_non, Ts.q_is_int_non, Ts.q_is_bool_non, Ts.q_is_list_non, Ts.q_ni_bl, Ts.q_is_str_bl, Ts.q_is_tuple_bl, Ts.q_is_int_bl, Ts.q_is_bool_bl, Ts.q_is_list_bl, Ts.q_ni_int, Ts.q_is_str_int, Ts.q_is_tuple_int, Ts.q_is_int_int, Ts.q_is_bool_int, Ts.q_is_list_int, Ts.q_ni_str, Ts.q_is_str_str, Ts.q_is_tuple_str, Ts.q_is_int_str, Ts.q_is_bool_str, Ts.q_is_list_str, Ts.q_ni_tup, Ts.q_is_str_tup, Ts.q_is_tuple_tup, Ts.q_is_int_tup, Ts.q_is_bool_tup, Ts.q_is_list_tup, Ts.q_ni_lst, Ts.q_is_str_lst, Ts.q_is_tuple_lst, Ts.q_is_int_lst, Ts.q_is_bool_lst, Ts.q_is_list_lst, Ts.q_ni_dct, Ts.q_is_str_dct, Ts.q_is_tuple_dct, Ts.q_is_int_dct, Ts.q_is_bool_dct, Ts.q_is_list_dct, Ts.q_s_for, Ts.q_s_whl, Ts.q_e_lc, Option.some.injEq, exists_eq_left', exists_eq_left, D.bl.injEq, D.int.injEq, D.str.injEq, D.lst.injEq, D.tup.injEq, Ts.Sl.lst.injEq, List.map_cons, List.map_nil, List.length_cons, List.length_nil, List.getElem?_cons_zero, List.getElem?_cons_succ, List.set_cons_zero, List.set_cons_succ, and_true, true_and, exists_and_left, if_true, if_false, Bool.false_eq_true, reduceIte, reduceCtorEq, Bool.not_true, Bool.not_false]
  obtain ⟨sg, e1, hs⟩ := pickD (xs := TS) D.str (L := [.str [97, 98, 65, 66, 49, 50, 32, 45], .str [97, 66, 32, 49], .str [97, 97, 98], .str ALLS]) rfl (c / 32) 4 rfl (by decide)
  obtain ⟨s0, s1, s2⟩ := ts_ok sg hs
  refine ⟨by decide, ⟨by decide, by decide⟩, by decide, .str sg, e1, ?_⟩
  simp only [b__law_text_2, b__law_text_3, b__law_text_4, b__law_text_5, Ts.q_o_v, Ts.q_o_k, Ts.q_o_g, Ts.q_o_bin, Ts.q_o_neg, Ts.q_o_cmp, Ts.q_o_cmp2, Ts.q_o_and, Ts.q_o_or, Ts.q_o_not, Ts.q_o_ite, Ts.q_o_tup, Ts.q_o_lst, Ts.q_o_ix, Ts.q_o_sl, Ts.q_o_call, Ts.q_o_bi, Ts.q_o_mt, Ts.q_o_lc, Ts.q_o_lrng, Ts.q_o_dic, Ts.q_o_dce, Ts.q_o_ise, Ts.q_o_o, Ts.q_od_v, Ts.q_od_o, Ts.q_ods_n, Ts.q_ods_c, Ts.q_sv_v, Ts.q_sv_l, Ts.q_own_l, Ts.q_isl_l, Ts.q_vs_v, Ts.q_vs_l, Ts.q_e_v, Ts.q_e_k, Ts.q_e_g, Ts.q_e_bin, Ts.q_e_neg, Ts.q_e_cmp, Ts.q_e_cmp2, Ts.q_e_and, Ts.q_e_or, Ts.q_e_not, Ts.q_e_ite, Ts.q_e_tup, Ts.q_e_lst, Ts.q_e_ix, Ts.q_e_sl, Ts.q_e_call, Ts.q_e_bi, Ts.q_e_mt, Ts.q_e_dic, Ts.q_e_dce, Ts.q_e_lrng, Ts.q_e_ise, Ts.q_es_n, Ts.q_es_c, Ts.q_os_n, Ts.q_os_c, Ts.q_oe_n, Ts.q_oe_s, Ts.q_if_n, Ts.q_if_s, Ts.q_it_of, Ts.q_it_r1, Ts.q_it_r2, Ts.q_it_en, Ts.q_it_z2, Ts.q_it_z3, Ts.q_nt_l, Ts.q_nt_s, Ts.q_im_s, Ts.q_im_l, Ts.q_im_t, Ts.q_s_set, Ts.q_s_new, Ts.q_s_unp, Ts.q_s_app, Ts.q_s_seti, Ts.q_s_ret, Ts.q_s_retn, Ts.q_s_ife, Ts.q_s_ex, Ts.q_s_pas, Ts.q_s_brk, Ts.q_s_cnt, Ts.q_s_rse, Ts.q_s_tri, Ts.q_ss_n, Ts.q_ss_c, Ts.q_tg_x, Ts.q_tg_xs, Ts.q_st_n, Ts.q_st_c, Ts.q_b_add_i, Ts.q_b_add_s, Ts.q_b_add_l, Ts.q_b_add_t, Ts.q_b_sub_i, Ts.q_b_mul_i, Ts.q_b_mul_s, Ts.q_b_fdiv_i, Ts.q_b_mod_i, Ts.q_b_pow_i, Ts.q_c_eq_a, Ts.q_c_ne_a, Ts.q_c_lt_i, Ts.q_c_le_i, Ts.q_c_gt_i, Ts.q_c_ge_i, Ts.q_c_is_b, Ts.q_c_isn_b, Ts.q_c_in__s, Ts.q_c_nin_s, Ts.q_c_in__t_int, Ts.q_c_nin_t_int, Ts.q_c_in__t_str, Ts.q_c_nin_t_str, Ts.q_c_in__t_bl, Ts.q_c_nin_t_bl, Ts.q_c_is_n, Ts.q_c_isn_n, Ts.q_c_in__l, Ts.q_c_nin_l, Ts.q_nn_non, Ts.q_nn_bl, Ts.q_nn_int, Ts.q_nn_str, Ts.q_nn_tup, Ts.q_nn_lst, Ts.q_nn_dct, Ts.q_i_s, Ts.q_i_l, Ts.q_i_t, Ts.q_sl_s, Ts.q_sl_l, Ts.q_sl_t, Ts.q_f_len_s, Ts.q_f_len_l, Ts.q_f_len_t, Ts.q_f_abs, Ts.q_f_int_i, Ts.q_f_int_b, Ts.q_f_str, Ts.q_f_list_l, Ts.q_f_list_t, Ts.q_f_tup_l, Ts.q_f_tup_t, Ts.q_f_sum, Ts.q_f_all, Ts.q_f_any, Ts.q_f_max2, Ts.q_f_min2, Ts.q_f_maxl, Ts.q_f_minl, Ts.q_f_isi, Ts.q_m_join, Ts.q_m_upper, Ts.q_m_lower, Ts.q_m_islower, Ts.q_m_isupper, Ts.q_m_isdigit, Ts.q_m_isalnum, Ts.q_m_split, Ts.q_isstr, Ts.q_ni_non, Ts.q_is_str_non, Ts.q_is_tuple_non, Ts.q_is_int_non, Ts.q_is_bool_non, Ts.q_is_list_non, Ts.q_ni_bl, Ts.q_is_str_bl, Ts.q_is_tuple_bl, Ts.q_is_int_bl, Ts.q_is_bool_bl, Ts.q_is_list_bl, Ts.q_ni_int, Ts.q_is_str_int, Ts.q_is_tuple_int, Ts.q_is_int_int, Ts.q_is_bool_int, Ts.q_is_list_int, Ts.q_ni_str, Ts.q_is_str_str, Ts.q_is_tuple_str, Ts.q_is_int_str, Ts.q_is_bool_str, Ts.q_is_list_str, Ts.q_ni_tup, Ts.q_is_str_tup, Ts.q_is_tuple_tup, Ts.q_is_int_tup, Ts.q_is_bool_tup, Ts.q_is_list_tup, Ts.q_ni_lst, Ts.q_is_str_lst, Ts.q_is_tuple_lst, Ts.q_is_int_lst, Ts.q_is_bool_lst, Ts.q_is_list_lst, Ts.q_ni_dct, Ts.q_is_str_dct, Ts.q_is_tuple_dct, Ts.q_is_int_dct, Ts.q_is_bool_dct, Ts.q_is_list_dct, Ts.q_s_for, Ts.q_s_whl, Ts.q_e_lc, Option.some.injEq, exists_eq_left', exists_eq_left, D.bl.injEq, D.int.injEq, D.str.injEq, D.lst.injEq, D.tup.injEq, Ts.Sl.lst.injEq, List.map_cons, List.map_nil, List.length_cons, List.length_nil, List.getElem?_cons_zero, List.getElem?_cons_succ, List.set_cons_zero, List.set_cons_succ, and_true, true_and, exists_and_left, if_true, if_false, Bool.false_eq_true, reduceIte, reduceCtorEq, Bool.not_true, Bool.not_false]
  have z0 : 0 ≤ c % (m + 1) := Int.emod_nonneg _ (by omega)
  have z1 : c % (m + 1) < m + 1 := Int.emod_lt_of_pos _ (by omega)
  refine ⟨by omega, ⟨by decide, by decide⟩, ⟨by omega, by omega⟩, ?_⟩
  refine for_in (fun i ρ => ∃ x s k, ρ = [.val (.int x), .val (.int m), .val (.str ALLS), .val (.str sg), .val (.int (c % (m + 1))), .val (.str s), k] ∧ Tx s ∧ s.length = i) ⟨c / 128, [], .no, rfl, (fun c hc => by cases hc), rfl⟩ (fun i d ρ hd hI => ?_) (fun ρ hI => ?_)
  · obtain ⟨x, s, k, rfl, ht, hl⟩ := hI
    have hi : i < (c % (m + 1)).toNat := by
      have := (List.getElem?_eq_some_iff.mp hd).1
      rw [rng_len] at this
      omega
    simp only [b__law_text_L1, b__law_text_L1_1, Ts.q_o_v, Ts.q_o_k, Ts.q_o_g, Ts.q_o_bin, Ts.q_o_neg, Ts.q_o_cmp, Ts.q_o_cmp2, Ts.q_o_and, Ts.q_o_or, Ts.q_o_not, Ts.q_o_ite, Ts.q_o_tup, Ts.q_o_lst, Ts.q_o_ix, Ts.q_o_sl, Ts.q_o_call, Ts.q_o_bi, Ts.q_o_mt, Ts.q_o_lc, Ts.q_o_lrng, Ts.q_o_dic, Ts.q_o_dce, Ts.q_o_ise, Ts.q_o_o, Ts.q_od_v, Ts.q_od_o, Ts.q_ods_n, Ts.q_ods_c, Ts.q_sv_v, Ts.q_sv_l, Ts.q_own_l, Ts.q_isl_l, Ts.q_vs_v, Ts.q_vs_l, Ts.q_e_v, Ts.q_e_k, Ts.q_e_g, Ts.q_e_bin, Ts.q_e_neg, Ts.q_e_cmp, Ts.q_e_cmp2, Ts.q_e_and, Ts.q_e_or, Ts.q_e_not, Ts.q_e_ite, Ts.q_e_tup, Ts.q_e_lst, Ts.q_e_ix, Ts.q_e_sl, Ts.q_e_call, Ts.q_e_bi, Ts.q_e_mt, Ts.q_e_dic, Ts.q_e_dce, Ts.q_e_lrng, Ts.q_e_ise, Ts.q_es_n, Ts.q_es_c, Ts.q_os_n, Ts.q_os_c, Ts.q_oe_n, Ts.q_oe_s, Ts.q_if_n, Ts.q_if_s, Ts.q_it_of, Ts.q_it_r1, Ts.q_it_r2, Ts.q_it_en, Ts.q_it_z2, Ts.q_it_z3, Ts.q_nt_l, Ts.q_nt_s, Ts.q_im_s, Ts.q_im_l, Ts.q_im_t, Ts.q_s_set, Ts.q_s_new, Ts.q_s_unp, Ts.q_s_app, Ts.q_s_seti, Ts.q_s_ret, Ts.q_s_retn, Ts.q_s_ife, Ts.q_s_ex, Ts.q_s_pas, Ts.q_s_brk, Ts.q_s_cnt, Ts.q_s_rse, Ts.q_s_tri, Ts.q_ss_n, Ts.q_ss_c, Ts.q_tg_x, Ts.q_tg_xs, Ts.q_st_n, Ts.q_st_c, Ts.q_b_add_i, Ts.q_b_add_s, Ts.q_b_add_l, Ts.q_b_add_t, Ts.q_b_sub_i, Ts.q_b_mul_i, Ts.q_b_mul_s, Ts.q_b_fdiv_i, Ts.q_b_mod_i, Ts.q_b_pow_i, Ts.q_c_eq_a, Ts.q_c_ne_a, Ts.q_c_lt_i, Ts.q_c_le_i, Ts.q_c_gt_i, Ts.q_c_ge_i, Ts.q_c_is_b, Ts.q_c_isn_b, Ts.q_c_in__s, Ts.q_c_nin_s, Ts.q_c_in__t_int, Ts.q_c_nin_t_int, Ts.q_c_in__t_str, Ts.q_c_nin_t_str, Ts.q_c_in__t_bl, Ts.q_c_nin_t_bl, Ts.q_c_is_n, Ts.q_c_isn_n, Ts.q_c_in__l, Ts.q_c_nin_l, Ts.q_nn_non, Ts.q_nn_bl, Ts.q_nn_int, Ts.q_nn_str, Ts.q_nn_tup, Ts.q_nn_lst, Ts.q_nn_dct, Ts.q_i_s, Ts.q_i_l, Ts.q_i_t, Ts.q_sl_s, Ts.q_sl_l, Ts.q_sl_t, Ts.q_f_len_s, Ts.q_f_len_l, Ts.q_f_len_t, Ts.q_f_abs, Ts.q_f_int_i, Ts.q_f_int_b, Ts.q_f_str, Ts.q_f_list_l, Ts.q_f_list_t, Ts.q_f_tup_l, Ts.q_f_tup_t, Ts.q_f_sum, Ts.q_f_all, Ts.q_f_any, Ts.q_f_max2, Ts.q_f_min2, Ts.q_f_maxl, Ts.q_f_minl, Ts.q_f_isi, Ts.q_m_join, Ts.q_m_upper, Ts.q_m_lower, Ts.q_m_islower, Ts.q_m_isupper, Ts.q_m_isdigit, Ts.q_m_isalnum, Ts.q_m_split, Ts.q_isstr, Ts.q_ni_non, Ts.q_is_str_non, Ts.q_is_tuple_non, Ts.q_is_int_non, Ts.q_is_bool_non, Ts.q_is_list_non, Ts.q_ni_bl, Ts.q_is_str_bl, Ts.q_is_tuple_bl, Ts.q_is_int_bl, Ts.q_is_bool_bl, Ts.q_is_list_bl, Ts.q_ni_int, Ts.q_is_str_int, Ts.q_is_tuple_int, Ts.q_is_int_int, Ts.q_is_bool_int, Ts.q_is_list_int, Ts.q_ni_str, Ts.q_is_str_str, Ts.q_is_tuple_str, Ts.q_is_int_str, Ts.q_is_bool_str, Ts.q_is_list_str, Ts.q_ni_tup, Ts.q_is_str_tup, Ts.q_is_tuple_tup, Ts.q_is_int_tup, Ts.q_is_bool_tup, Ts.q_is_list_tup, Ts.q_ni_lst, Ts.q_is_str_lst, Ts.q_is_tuple_lst, Ts.q_is_int_lst, Ts.q_is_bool_lst, Ts.q_is_list_lst, Ts.q_ni_dct, Ts.q_is_str_dct, Ts.q_is_tuple_dct, Ts.q_is_int_dct, Ts.q_is_bool_dct, Ts.q_is_list_dct, Ts.q_s_for, Ts.q_s_whl, Ts.q_e_lc, Option.some.injEq, exists_eq_left', exists_eq_left, D.bl.injEq, D.int.injEq, D.str.injEq, D.lst.injEq, D.tup.injEq, Ts.Sl.lst.injEq, List.map_cons, List.map_nil, List.length_cons, List.length_nil, List.getElem?_cons_zero, List.getElem?_cons_succ, List.set_cons_zero, List.set_cons_succ, and_true, true_and, exists_and_left, if_true, if_false, Bool.false_eq_true, reduceIte, reduceCtorEq, Bool.not_true, Bool.not_false]
    obtain ⟨y, e2, hy⟩ := pick (xs := sg) x sg.length rfl (by omega)
    refine ⟨by show sg.length ≤ 16777216; omega, by omega, by show sg.length ≤ 16777216; omega, y, e2, ?_⟩
    refine ⟨by show s.length + 1 ≤ 16777216; omega, by show sg.length ≤ 16777216; omega, ⟨by omega, by omega⟩, x / sg.length, s ++ [y], _, rfl, fun q hq => ?_, by simp [hl]⟩
    rcases List.mem_append.mp hq with hq | hq
    · exact ht q hq
    · rw [List.mem_singleton.mp hq]; exact s2 y hy
  · obtain ⟨x, s, k, rfl, ht, hl⟩ := hI
    simp only [b__law_text_6, Ts.q_o_v, Ts.q_o_k, Ts.q_o_g, Ts.q_o_bin, Ts.q_o_neg, Ts.q_o_cmp, Ts.q_o_cmp2, Ts.q_o_and, Ts.q_o_or, Ts.q_o_not, Ts.q_o_ite, Ts.q_o_tup, Ts.q_o_lst, Ts.q_o_ix, Ts.q_o_sl, Ts.q_o_call, Ts.q_o_bi, Ts.q_o_mt, Ts.q_o_lc, Ts.q_o_lrng, Ts.q_o_dic, Ts.q_o_dce, Ts.q_o_ise, Ts.q_o_o, Ts.q_od_v, Ts.q_od_o, Ts.q_ods_n, Ts.q_ods_c, Ts.q_sv_v, Ts.q_sv_l, Ts.q_own_l, Ts.q_isl_l, Ts.q_vs_v, Ts.q_vs_l, Ts.q_e_v, Ts.q_e_k, Ts.q_e_g, Ts.q_e_bin, Ts.q_e_neg, Ts.q_e_cmp, Ts.q_e_cmp2, Ts.q_e_and, Ts.q_e_or, Ts.q_e_not, Ts.q_e_ite, Ts.q_e_tup, Ts.q_e_lst, Ts.q_e_ix, Ts.q_e_sl, Ts.q_e_call, Ts.q_e_bi, Ts.q_e_mt, Ts.q_e_dic, Ts.q_e_dce, Ts.q_e_lrng, Ts.q_e_ise, Ts.q_es_n, Ts.q_es_c, Ts.q_os_n, Ts.q_os_c, Ts.q_oe_n, Ts.q_oe_s, Ts.q_if_n, Ts.q_if_s, Ts.q_it_of, Ts.q_it_r1, Ts.q_it_r2, Ts.q_it_en, Ts.q_it_z2, Ts.q_it_z3, Ts.q_nt_l, Ts.q_nt_s, Ts.q_im_s, Ts.q_im_l, Ts.q_im_t, Ts.q_s_set, Ts.q_s_new, Ts.q_s_unp, Ts.q_s_app, Ts.q_s_seti, Ts.q_s_ret, Ts.q_s_retn, Ts.q_s_ife, Ts.q_s_ex, Ts.q_s_pas, Ts.q_s_brk, Ts.q_s_cnt, Ts.q_s_rse, Ts.q_s_tri, Ts.q_ss_n, Ts.q_ss_c, Ts.q_tg_x, Ts.q_tg_xs, Ts.q_st_n, Ts.q_st_c, Ts.q_b_add_i, Ts.q_b_add_s, Ts.q_b_add_l, Ts.q_b_add_t, Ts.q_b_sub_i, Ts.q_b_mul_i, Ts.q_b_mul_s, Ts.q_b_fdiv_i, Ts.q_b_mod_i, Ts.q_b_pow_i, Ts.q_c_eq_a, Ts.q_c_ne_a, Ts.q_c_lt_i, Ts.q_c_le_i, Ts.q_c_gt_i, Ts.q_c_ge_i, Ts.q_c_is_b, Ts.q_c_isn_b, Ts.q_c_in__s, Ts.q_c_nin_s, Ts.q_c_in__t_int, Ts.q_c_nin_t_int, Ts.q_c_in__t_str, Ts.q_c_nin_t_str, Ts.q_c_in__t_bl, Ts.q_c_nin_t_bl, Ts.q_c_is_n, Ts.q_c_isn_n, Ts.q_c_in__l, Ts.q_c_nin_l, Ts.q_nn_non, Ts.q_nn_bl, Ts.q_nn_int, Ts.q_nn_str, Ts.q_nn_tup, Ts.q_nn_lst, Ts.q_nn_dct, Ts.q_i_s, Ts.q_i_l, Ts.q_i_t, Ts.q_sl_s, Ts.q_sl_l, Ts.q_sl_t, Ts.q_f_len_s, Ts.q_f_len_l, Ts.q_f_len_t, Ts.q_f_abs, Ts.q_f_int_i, Ts.q_f_int_b, Ts.q_f_str, Ts.q_f_list_l, Ts.q_f_list_t, Ts.q_f_tup_l, Ts.q_f_tup_t, Ts.q_f_sum, Ts.q_f_all, Ts.q_f_any, Ts.q_f_max2, Ts.q_f_min2, Ts.q_f_maxl, Ts.q_f_minl, Ts.q_f_isi, Ts.q_m_join, Ts.q_m_upper, Ts.q_m_lower, Ts.q_m_islower, Ts.q_m_isupper, Ts.q_m_isdigit, Ts.q_m_isalnum, Ts.q_m_split, Ts.q_isstr, Ts.q_ni_non, Ts.q_is_str_non, Ts.q_is_tuple_non, Ts.q_is_int_non, Ts.q_is_bool_non, Ts.q_is_list_non, Ts.q_ni_bl, Ts.q_is_str_bl, Ts.q_is_tuple_bl, Ts.q_is_int_bl, Ts.q_is_bool_bl, Ts.q_is_list_bl, Ts.q_ni_int, Ts.q_is_str_int, Ts.q_is_tuple_int, Ts.q_is_int_int, Ts.q_is_bool_int, Ts.q_is_list_int, Ts.q_ni_str, Ts.q_is_str_str, Ts.q_is_tuple_str, Ts.q_is_int_str, Ts.q_is_bool_str, Ts.q_is_list_str, Ts.q_ni_tup, Ts.q_is_str_tup, Ts.q_is_tuple_tup, Ts.q_is_int_tup, Ts.q_is_bool_tup, Ts.q_is_list_tup, Ts.q_ni_lst, Ts.q_is_str_lst, Ts.q_is_tuple_lst, Ts.q_is_int_lst, Ts.q_is_bool_lst, Ts.q_is_list_lst, Ts.q_ni_dct, Ts.q_is_str_dct, Ts.q_is_tuple_dct, Ts.q_is_int_dct, Ts.q_is_bool_dct, Ts.q_is_list_dct, Ts.q_s_for, Ts.q_s_whl, Ts.q_e_lc, Option.some.injEq, exists_eq_left', exists_eq_left, D.bl.injEq, D.int.injEq, D.str.injEq, D.lst.injEq, D.tup.injEq, Ts.Sl.lst.injEq, List.map_cons, List.map_nil, List.length_cons, List.length_nil, List.getElem?_cons_zero, List.getElem?_cons_succ, List.set_cons_zero, List.set_cons_succ, and_true, true_and, exists_and_left, if_true, if_false, Bool.false_eq_true, reduceIte, reduceCtorEq, Bool.not_true, Bool.not_false]
    rw [rng_len] at hl
    exact e s _ ht (by omega)
/-! ### places -/
def NTH : List Int := [1, 2, -1, -2]
def EDG : List (List Nat) := [eAhead, eBehind]
def sp_place : PSpec := { ar := 1, G := Int, pre := fun g ds => ds = [.int g], ret := fun _ r => ∃ p : Plc, r = dPl p ∧ p.ok }
theorem x_place {g c} : sp_place.exc g c = False := rfl
theorem r_place {g} {Φ : D → Prop} : (∀ d, sp_place.ret g d → Φ d) = ∀ p : Plc, p.ok → Φ (dPl p) := propext ⟨fun h c h0 => h _ ⟨c, rfl, h0⟩, fun h d ⟨c, e, h0⟩ => by rw [e]; exact h c h0⟩
def m_place : Sm := { fn := [], cn := [] }
theorem w_place (c : Int) (ds : List D) (hl : ds.length = 1) (hp : sp_place.pre c ds) : wpSs m_place b__law_place (rho0 2 ds) (pt sp_place c) := by
  have hp : ds = [.int c] := hp
  subst hp
  have e : ∀ (p : Plc) ρ, p.ok → (pt sp_place c).rt (dPl p) ρ := fun p ρ h => ⟨p, rfl, h⟩
  rw [show rho0 2 [D.int c] = [.val (.int c), .no] from rfl]
  generalize pt sp_place c = P at e ⊢
  simp only [b__law_place, m_place, Ts.q_o_v, Ts.q_o_k, Ts.q_o_g, Ts.q_o_bin, Ts.q_o_neg, Ts.q_o_cmp, Ts.q_o_cmp2, Ts.q_o_and, Ts.q_o_or, Ts.q_o_not, Ts.q_o_ite, Ts.q_o_tup, Ts.q_o_lst, Ts.q_o_ix, Ts.q_o_sl, Ts.q_o_call, Ts.q_o_bi, Ts.q_o_mt, Ts.q_o_lc, Ts.q_o_lrng, Ts.q_o_dic, Ts.q_o_dce, Ts.q_o_ise, Ts.q_o_o, Ts.q_od_v, Ts.q_od_o, Ts.q_ods_n, Ts.q_ods_c, Ts.q_sv_v, Ts.q_sv_l, Ts.q_own_l, Ts.q_isl_l, Ts.q_vs_v, Ts.q_vs_l, Ts.q_e_v, Ts.q_e_k, Ts.q_e_g, Ts.q_e_bin, Ts.q_e_neg, Ts.q_e_cmp, Ts.q_e_cmp2, Ts.q_e_and, Ts.q_e_or, Ts.q_e_not, Ts.q_e_ite, Ts.q_e_tup, Ts.q_e_lst, Ts.q_e_ix, Ts.q_e_sl, Ts.q_e_call, Ts.q_e_bi, Ts.q_e_mt, Ts.q_e_dic, Ts.q_e_dce, Ts.q_e_lrng, Ts.q_e_ise, Ts.q_es_n, Ts.q_es_c, Ts.q_os_n, Ts.q_os_c, Ts.q_oe_n, Ts.q_oe_s, Ts.q_if_n, Ts.q_if_s, Ts.q_it_of, Ts.q_it_r1, Ts.q_it_r2, Ts.q_it_en, Ts.q_it_z2, Ts.q_it_z3, Ts.q_nt_l, Ts.q_nt_s, Ts.q_im_s, Ts.q_im_l, Ts.q_im_t, Ts.q_s_set, Ts.q_s_new, Ts.q_s_unp, Ts.q_s_app, Ts.q_s_seti, Ts.q_s_ret, Ts.q_s_retn, Ts.q_s_ife, Ts.q_s_ex, Ts.q_s_pas, Ts.q_s_brk, Ts.q_s_cnt, Ts.q_s_rse, Ts.q_s_tri, Ts.q_ss_n, Ts.q_ss_c, Ts.q_tg_x, Ts.q_tg_xs, Ts.q_st_n, Ts.q_st_c, Ts.q_b_add_i, Ts.q_b_add_s, Ts.q_b_add_l, Ts.q_b_add_t, Ts.q_b_sub_i, Ts.q_b_mul_i, Ts.q_b_mul_s, Ts.q_b_fdiv_i, Ts.q_b_mod_i, Ts.q_b_pow_i, Ts.q_c_eq_a, Ts.q_c_ne_a, Ts.q_c_lt_i, Ts.q_c_le_i, Ts.q_c_gt_i, Ts.q_c_ge_i, Ts.q_c_is_b, Ts.q_c_isn_b, Ts.q_c_in__s, Ts.q_c_nin_s, Ts.q_c_in__t_int, Ts.q_c_nin_t_int, Ts.q_c_in__t_str, Ts.q_c_nin_t_str, Ts.q_c_in__t_bl, Ts.q_c_nin_t_bl, Ts.q_c_is_n, Ts.q_c_isn_n, Ts.q_c_in__l, Ts.q_c_nin_l, Ts.q_nn_non, Ts.q_nn_bl, Ts.q_nn_int, Ts.q_nn_str, Ts.q_nn_tup, Ts.q_nn_lst, Ts.q_nn_dct, Ts.q_i_s, Ts.q_i_l, Ts.q_i_t, Ts.q_sl_s, Ts.q_sl_l, Ts.q_sl_t, Ts.q_f_len_s, Ts.q_f_len_l, Ts.q_f_len_t, Ts.q_f_abs, Ts.q_f_int_i, Ts.q_f_int_b, Ts.q_f_str, Ts.q_f_list_l, Ts.q_f_list_t, Ts.q_f_tup_l, Ts.q_f_tup_t, Ts.q_f_sum, Ts.q_f_all, Ts.q_f_any, Ts.q_f_max2, Ts.q_f_min2, Ts.q_f_maxl, Ts.q_f_minl, Ts.q_f_isi, Ts.q_m_join, Ts.q_m_upper, Ts.q_m_lower, Ts.q_m_islower, Ts.q_m_isupper, Ts.q_m_isdigit, Ts.q_m_isalnum, Ts.q_m_split, Ts.q_isstr, Ts.q_ni_non, Ts.q_is_str_non, Ts.q_is_tuple_non, Ts.q_is_int_non, Ts.q_is_bool_non, Ts.q_is_list_non, Ts.q_ni_bl, Ts.q_is_str_bl, Ts.q_is_tuple_bl, Ts.q_is_int_bl, Ts.q_is_bool_bl, Ts.q_is_list_bl, Ts.q_ni_int, Ts.q_is_str_int, Ts.q_is_tuple_int, Ts.q_is_int_int, Ts.q_is_bool_int, Ts.q_is_list_int, Ts.q_ni_str, Ts.q_is_str_str, Ts.q_is_tuple_str, Ts.q_is_int_str, Ts.q_is_bool_str, Ts.q_is_list_str, Ts.q_ni_tup, Ts.q_is_str_tup, Ts.q_is_tuple_tup, Ts.q_is_int_tup, Ts.q_is_bool_tup, Ts.q_is_list_tup, Ts.q_ni_lst, Ts.q_is_str_lst, Ts.q_is_tuple_lst, Ts.q_is_int_lst, Ts.q_is_bool_lst, Ts.q_is_list_lst, Ts.q_ni_dct, Ts.q_is_str_dct, Ts.q_is_tuple_dct, Ts.q_is_int_dct, Ts.q_is_bool_dct, Ts.q_is_list_dct, Ts.q_s_for, Ts.q_s_whl, Ts.q_e_lc, Option.some.injEq, exists_eq_left', exists_eq_left, D.bl.injEq, D.int.injEq, D.str.injEq, D.lst.injEq, D.tup.injEq, Ts.Sl.lst.injEq, List.map_cons, List.map_nil, List.length_cons, List.length_nil, List.getElem?_cons_zero, List.getElem?_cons_succ, List.set_cons_zero, List.set_cons_succ, and_true, true_and, exists_and_left, if_true, if_false, Bool.false_eq_true, reduceIte, reduceCtorEq, Bool.not_true, Bool.not_false]
  obtain ⟨k, e1, hk⟩ := pickD (xs := KN) D.str (L := [.str kSmall, .str kGreat, .str kFig, .str kMark, .str kAny]) rfl c 5 rfl (by decide)
  refine ⟨by decide, by decide, .str k, e1, ?_⟩
  simp only [b__law_place_1, Ts.q_o_v, Ts.q_o_k, Ts.q_o_g, Ts.q_o_bin, Ts.q_o_neg, Ts.q_o_cmp, Ts.q_o_cmp2, Ts.q_o_and, Ts.q_o_or, Ts.q_o_not, Ts.q_o_ite, Ts.q_o_tup, Ts.q_o_lst, Ts.q_o_ix, Ts.q_o_sl, Ts.q_o_call, Ts.q_o_bi, Ts.q_o_mt, Ts.q_o_lc, Ts.q_o_lrng, Ts.q_o_dic, Ts.q_o_dce, Ts.q_o_ise, Ts.q_o_o, Ts.q_od_v, Ts.q_od_o, Ts.q_ods_n, Ts.q_ods_c, Ts.q_sv_v, Ts.q_sv_l, Ts.q_own_l, Ts.q_isl_l, Ts.q_vs_v, Ts.q_vs_l, Ts.q_e_v, Ts.q_e_k, Ts.q_e_g, Ts.q_e_bin, Ts.q_e_neg, Ts.q_e_cmp, Ts.q_e_cmp2, Ts.q_e_and, Ts.q_e_or, Ts.q_e_not, Ts.q_e_ite, Ts.q_e_tup, Ts.q_e_lst, Ts.q_e_ix, Ts.q_e_sl, Ts.q_e_call, Ts.q_e_bi, Ts.q_e_mt, Ts.q_e_dic, Ts.q_e_dce, Ts.q_e_lrng, Ts.q_e_ise, Ts.q_es_n, Ts.q_es_c, Ts.q_os_n, Ts.q_os_c, Ts.q_oe_n, Ts.q_oe_s, Ts.q_if_n, Ts.q_if_s, Ts.q_it_of, Ts.q_it_r1, Ts.q_it_r2, Ts.q_it_en, Ts.q_it_z2, Ts.q_it_z3, Ts.q_nt_l, Ts.q_nt_s, Ts.q_im_s, Ts.q_im_l, Ts.q_im_t, Ts.q_s_set, Ts.q_s_new, Ts.q_s_unp, Ts.q_s_app, Ts.q_s_seti, Ts.q_s_ret, Ts.q_s_retn, Ts.q_s_ife, Ts.q_s_ex, Ts.q_s_pas, Ts.q_s_brk, Ts.q_s_cnt, Ts.q_s_rse, Ts.q_s_tri, Ts.q_ss_n, Ts.q_ss_c, Ts.q_tg_x, Ts.q_tg_xs, Ts.q_st_n, Ts.q_st_c, Ts.q_b_add_i, Ts.q_b_add_s, Ts.q_b_add_l, Ts.q_b_add_t, Ts.q_b_sub_i, Ts.q_b_mul_i, Ts.q_b_mul_s, Ts.q_b_fdiv_i, Ts.q_b_mod_i, Ts.q_b_pow_i, Ts.q_c_eq_a, Ts.q_c_ne_a, Ts.q_c_lt_i, Ts.q_c_le_i, Ts.q_c_gt_i, Ts.q_c_ge_i, Ts.q_c_is_b, Ts.q_c_isn_b, Ts.q_c_in__s, Ts.q_c_nin_s, Ts.q_c_in__t_int, Ts.q_c_nin_t_int, Ts.q_c_in__t_str, Ts.q_c_nin_t_str, Ts.q_c_in__t_bl, Ts.q_c_nin_t_bl, Ts.q_c_is_n, Ts.q_c_isn_n, Ts.q_c_in__l, Ts.q_c_nin_l, Ts.q_nn_non, Ts.q_nn_bl, Ts.q_nn_int, Ts.q_nn_str, Ts.q_nn_tup, Ts.q_nn_lst, Ts.q_nn_dct, Ts.q_i_s, Ts.q_i_l, Ts.q_i_t, Ts.q_sl_s, Ts.q_sl_l, Ts.q_sl_t, Ts.q_f_len_s, Ts.q_f_len_l, Ts.q_f_len_t, Ts.q_f_abs, Ts.q_f_int_i, Ts.q_f_int_b, Ts.q_f_str, Ts.q_f_list_l, Ts.q_f_list_t, Ts.q_f_tup_l, Ts.q_f_tup_t, Ts.q_f_sum, Ts.q_f_all, Ts.q_f_any, Ts.q_f_max2, Ts.q_f_min2, Ts.q_f_maxl, Ts.q_f_minl, Ts.q_f_isi, Ts.q_m_join, Ts.q_m_upper, Ts.q_m_lower, Ts.q_m_islower, Ts.q_m_isupper, Ts.q_m_isdigit, Ts.q_m_isalnum, Ts.q_m_split, Ts.q_isstr, Ts.q_ni_non, Ts.q_is_str_non, Ts.q_is_tuple_non, Ts.q_is_int_non, Ts.q_is_bool_non, Ts.q_is_list_non, Ts.q_ni_bl, Ts.q_is_str_bl, Ts.q_is_tuple_bl, Ts.q_is_int_bl, Ts.q_is_bool_bl, Ts.q_is_list_bl, Ts.q_ni_int, Ts.q_is_str_int, Ts.q_is_tuple_int, Ts.q_is_int_int, Ts.q_is_bool_int, Ts.q_is_list_int, Ts.q_ni_str, Ts.q_is_str_str, Ts.q_is_tuple_str, Ts.q_is_int_str, Ts.q_is_bool_str, Ts.q_is_list_str, Ts.q_ni_tup, Ts.q_is_str_tup, Ts.q_is_tuple_tup, Ts.q_is_int_tup, Ts.q_is_bool_tup, Ts.q_is_list_tup, Ts.q_ni_lst, Ts.q_is_str_lst, Ts.q_is_tuple_lst, Ts.q_is_int_lst, Ts.q_is_bool_lst, Ts.q_is_list_lst, Ts.q_ni_dct, Ts.q_is_str_dct, Ts.q_is_tuple_dct, Ts.q_is_int_dct, Ts.q_is_bool_dct, Ts.q_is_list_dct, Ts.q_s_for, Ts.q_s_whl, Ts.q_e_lc, Option.some.injEq, exists_eq_left', exists_eq_left, D.bl.injEq, D.int.injEq, D.str.injEq, D.lst.injEq, D.tup.injEq, Ts.Sl.lst.injEq, List.map_cons, List.map_nil, List.length_cons, List.length_nil, List.getElem?_cons_zero, List.getElem?_cons_succ, List.set_cons_zero, List.set_cons_succ, and_true, true_and, exists_and_left, if_true, if_false, Bool.false_eq_true, reduceIte, reduceCtorEq, Bool.not_true, Bool.not_false]
  obtain ⟨n, e2, hn⟩ := pickD (xs := NTH) D.int (L := [.int 1, .int 2, .int (-1), .int (-2)]) rfl (c / 5) 4 rfl (by decide)
  obtain ⟨ed, e3, he⟩ := pickD (xs := EDG) D.str (L := [.str eAhead, .str eBehind]) rfl (c / 20) 2 rfl (by decide)
  exact ⟨by decide, ⟨by decide, by decide⟩, by decide, .int n, e2, by decide, ⟨by decide, by decide⟩, by decide, .str ed, e3, by decide, e ⟨k, n, ed⟩ _ ⟨hk, hn, he⟩⟩
/-! ### the laws' own spot -/
theorem fm_rng {k t : List Nat} {R : D → Option D → Prop} (hR : ∀ (i : Nat) (c : Nat) (o : Option D), t[i]? = some c → R (.int (i : Nat)) o → o = if ofKind k c then some (dN i) else none) :
    ∀ (n : Nat) (u : List Nat) {es : List D}, t.drop n = u → Fm R ((List.range u.length).map fun i => .int ((n + i : Nat) : Int)) es → es = (stF k n u).map dN := by
  intro n u
  induction u generalizing n with
  | nil => intro es _ f; cases f; rfl
  | cons c u ih =>
    intro es hu f
    have hc : t[n]? = some c := by
      have q : (t.drop n)[0]? = some c := by rw [hu]; rfl
      rw [List.getElem?_drop] at q
      simpa using q
    have hd : t.drop (n + 1) = u := by rw [← List.drop_drop, hu]; rfl
    have e2 : ((List.range (c :: u).length).map fun i => D.int ((n + i : Nat) : Int)) = D.int (n : Nat) :: (List.range u.length).map fun i => .int ((n + 1 + i : Nat) : Int) := by
      rw [List.length_cons, List.range_succ_eq_map, List.map_cons, List.map_map]
      congr 1
      apply List.map_congr_left
      intro x _
      show D.int ((n + (x + 1) : Nat) : Int) = D.int ((n + 1 + x : Nat) : Int)
      rw [show n + (x + 1) = n + 1 + x by omega]
    rw [e2] at f
    unfold stF
    cases f with
    | skip h r =>
      have q := hR n c _ hc h
      have hk : ofKind k c = false := by
        cases z : ofKind k c with
        | false => rfl
        | true => rw [z] at q; cases q
      rw [if_neg (by rw [hk]; decide)]
      exact ih (n + 1) hd r
    | keep h r =>
      have q := hR n c _ hc h
      cases z : ofKind k c with
      | false => rw [z] at q; cases q
      | true =>
        rw [z] at q
        rw [if_pos rfl, List.map_cons, ih (n + 1) hd r]
        rw [if_pos rfl] at q
        cases q
        rfl
theorem rng_0 (n : Nat) : rngD 0 (n : Int) = (List.range n).map fun i => .int ((0 + i : Nat) : Int) := by
  unfold rngD
  rw [show ((n : Nat) : Int) - 0 = ((n : Nat) : Int) by omega, Int.toNat_natCast]
  apply List.map_congr_left
  intro x _
  show D.int (0 + (x : Int)) = D.int ((0 + x : Nat) : Int)
  rw [show ((0 + x : Nat) : Int) = 0 + (x : Int) by omega]
def RSt (k t : List Nat) (d : D) (o : Option D) : Prop := ∃ (i : Nat) (c : Nat), d = .int (i : Nat) ∧ t[i]? = some c ∧ o = if ofKind k c then some (dN i) else none
abbrev sp_lspot : PSpec := sp_spot
def m_lspot : Sm := { fn := [sp_kind], cn := [] }
theorem w_lspot (g : Plc × List Nat) (ds : List D) (hl : ds.length = 2) (hp : sp_spot.pre g ds) : wpSs m_lspot b__law_spot (rho0 7 ds) (pt sp_spot g) := by
  obtain ⟨⟨k, n, ed⟩, t⟩ := g
  obtain ⟨rfl, ⟨hk, hn, he⟩, ht, hlt⟩ := hp
  have hk : k ∈ KN := hk
  have hn : n ∈ [(1 : Int), 2, -1, -2] := hn
  have he : ed ∈ [eAhead, eBehind] := he
  have ht : Tx t := ht
  have hlt : t.length ≤ 100 := hlt
  have e : ∀ d ρ, d = dO (spotBy (stands k t) n ed) → (pt sp_spot (⟨k, n, ed⟩, t)).rt d ρ := fun d ρ h => h
  rw [show rho0 7 [dPl ⟨k, n, ed⟩, D.str t] = [.val (.tup [.str k, .int n, .str ed]), .val (.str t), .no, .no, .no, .no, .no] from rfl]
  generalize pt sp_spot (⟨k, n, ed⟩, t) = P at e ⊢
  simp only [b__law_spot, b__law_spot_1, m_lspot, Ts.q_o_v, Ts.q_o_k, Ts.q_o_g, Ts.q_o_bin, Ts.q_o_neg, Ts.q_o_cmp, Ts.q_o_cmp2, Ts.q_o_and, Ts.q_o_or, Ts.q_o_not, Ts.q_o_ite, Ts.q_o_tup, Ts.q_o_lst, Ts.q_o_ix, Ts.q_o_sl, Ts.q_o_call, Ts.q_o_bi, Ts.q_o_mt, Ts.q_o_lc, Ts.q_o_lrng, Ts.q_o_dic, Ts.q_o_dce, Ts.q_o_ise, Ts.q_o_o, Ts.q_od_v, Ts.q_od_o, Ts.q_ods_n, Ts.q_ods_c, Ts.q_sv_v, Ts.q_sv_l, Ts.q_own_l, Ts.q_isl_l, Ts.q_vs_v, Ts.q_vs_l, Ts.q_e_v, Ts.q_e_k, Ts.q_e_g, Ts.q_e_bin, Ts.q_e_neg, Ts.q_e_cmp, Ts.q_e_cmp2, Ts.q_e_and, Ts.q_e_or, Ts.q_e_not, Ts.q_e_ite, Ts.q_e_tup, Ts.q_e_lst, Ts.q_e_ix, Ts.q_e_sl, Ts.q_e_call, Ts.q_e_bi, Ts.q_e_mt, Ts.q_e_dic, Ts.q_e_dce, Ts.q_e_lrng, Ts.q_e_ise, Ts.q_es_n, Ts.q_es_c, Ts.q_os_n, Ts.q_os_c, Ts.q_oe_n, Ts.q_oe_s, Ts.q_if_n, Ts.q_if_s, Ts.q_it_of, Ts.q_it_r1, Ts.q_it_r2, Ts.q_it_en, Ts.q_it_z2, Ts.q_it_z3, Ts.q_nt_l, Ts.q_nt_s, Ts.q_im_s, Ts.q_im_l, Ts.q_im_t, Ts.q_s_set, Ts.q_s_new, Ts.q_s_unp, Ts.q_s_app, Ts.q_s_seti, Ts.q_s_ret, Ts.q_s_retn, Ts.q_s_ife, Ts.q_s_ex, Ts.q_s_pas, Ts.q_s_brk, Ts.q_s_cnt, Ts.q_s_rse, Ts.q_s_tri, Ts.q_ss_n, Ts.q_ss_c, Ts.q_tg_x, Ts.q_tg_xs, Ts.q_st_n, Ts.q_st_c, Ts.q_b_add_i, Ts.q_b_add_s, Ts.q_b_add_l, Ts.q_b_add_t, Ts.q_b_sub_i, Ts.q_b_mul_i, Ts.q_b_mul_s, Ts.q_b_fdiv_i, Ts.q_b_mod_i, Ts.q_b_pow_i, Ts.q_c_eq_a, Ts.q_c_ne_a, Ts.q_c_lt_i, Ts.q_c_le_i, Ts.q_c_gt_i, Ts.q_c_ge_i, Ts.q_c_is_b, Ts.q_c_isn_b, Ts.q_c_in__s, Ts.q_c_nin_s, Ts.q_c_in__t_int, Ts.q_c_nin_t_int, Ts.q_c_in__t_str, Ts.q_c_nin_t_str, Ts.q_c_in__t_bl, Ts.q_c_nin_t_bl, Ts.q_c_is_n, Ts.q_c_isn_n, Ts.q_c_in__l, Ts.q_c_nin_l, Ts.q_nn_non, Ts.q_nn_bl, Ts.q_nn_int, Ts.q_nn_str, Ts.q_nn_tup, Ts.q_nn_lst, Ts.q_nn_dct, Ts.q_i_s, Ts.q_i_l, Ts.q_i_t, Ts.q_sl_s, Ts.q_sl_l, Ts.q_sl_t, Ts.q_f_len_s, Ts.q_f_len_l, Ts.q_f_len_t, Ts.q_f_abs, Ts.q_f_int_i, Ts.q_f_int_b, Ts.q_f_str, Ts.q_f_list_l, Ts.q_f_list_t, Ts.q_f_tup_l, Ts.q_f_tup_t, Ts.q_f_sum, Ts.q_f_all, Ts.q_f_any, Ts.q_f_max2, Ts.q_f_min2, Ts.q_f_maxl, Ts.q_f_minl, Ts.q_f_isi, Ts.q_m_join, Ts.q_m_upper, Ts.q_m_lower, Ts.q_m_islower, Ts.q_m_isupper, Ts.q_m_isdigit, Ts.q_m_isalnum, Ts.q_m_split, Ts.q_isstr, Ts.q_ni_non, Ts.q_is_str_non, Ts.q_is_tuple_non, Ts.q_is_int_non, Ts.q_is_bool_non, Ts.q_is_list_non, Ts.q_ni_bl, Ts.q_is_str_bl, Ts.q_is_tuple_bl, Ts.q_is_int_bl, Ts.q_is_bool_bl, Ts.q_is_list_bl, Ts.q_ni_int, Ts.q_is_str_int, Ts.q_is_tuple_int, Ts.q_is_int_int, Ts.q_is_bool_int, Ts.q_is_list_int, Ts.q_ni_str, Ts.q_is_str_str, Ts.q_is_tuple_str, Ts.q_is_int_str, Ts.q_is_bool_str, Ts.q_is_list_str, Ts.q_ni_tup, Ts.q_is_str_tup, Ts.q_is_tuple_tup, Ts.q_is_int_tup, Ts.q_is_bool_tup, Ts.q_is_list_tup, Ts.q_ni_lst, Ts.q_is_str_lst, Ts.q_is_tuple_lst, Ts.q_is_int_lst, Ts.q_is_bool_lst, Ts.q_is_list_lst, Ts.q_ni_dct, Ts.q_is_str_dct, Ts.q_is_tuple_dct, Ts.q_is_int_dct, Ts.q_is_bool_dct, Ts.q_is_list_dct, Ts.q_s_for, Ts.q_s_whl, Ts.q_e_lc, Option.some.injEq, exists_eq_left', exists_eq_left, D.bl.injEq, D.int.injEq, D.str.injEq, D.lst.injEq, D.tup.injEq, Ts.Sl.lst.injEq, List.map_cons, List.map_nil, List.length_cons, List.length_nil, List.getElem?_cons_zero, List.getElem?_cons_succ, List.set_cons_zero, List.set_cons_succ, and_true, true_and, exists_and_left, if_true, if_false, Bool.false_eq_true, reduceIte, reduceCtorEq, Bool.not_true, Bool.not_false]
  refine ⟨by show t.length ≤ 16777216; omega, ⟨by omega, by omega⟩, by rw [rng_len]; show _ ≤ 16777216; omega, by rfl, RSt k t, fun d hd => ?_, fun es f => ?_⟩
  · obtain ⟨i, hi⟩ := List.getElem?_of_mem hd
    have hil : i < t.length := by
      have := (List.getElem?_eq_some_iff.mp hi).1
      rw [rng_len] at this
      omega
    rw [rng_get _ _ i (by omega)] at hi
    cases hi
    have hc : t[i]? = some t[i] := by simp [hil]
    rw [Int.zero_add]
    simp only [wipeE, eq_str, Ts.q_o_v, Ts.q_o_k, Ts.q_o_g, Ts.q_o_bin, Ts.q_o_neg, Ts.q_o_cmp, Ts.q_o_cmp2, Ts.q_o_and, Ts.q_o_or, Ts.q_o_not, Ts.q_o_ite, Ts.q_o_tup, Ts.q_o_lst, Ts.q_o_ix, Ts.q_o_sl, Ts.q_o_call, Ts.q_o_bi, Ts.q_o_mt, Ts.q_o_lc, Ts.q_o_lrng, Ts.q_o_dic, Ts.q_o_dce, Ts.q_o_ise, Ts.q_o_o, Ts.q_od_v, Ts.q_od_o, Ts.q_ods_n, Ts.q_ods_c, Ts.q_sv_v, Ts.q_sv_l, Ts.q_own_l, Ts.q_isl_l, Ts.q_vs_v, Ts.q_vs_l, Ts.q_e_v, Ts.q_e_k, Ts.q_e_g, Ts.q_e_bin, Ts.q_e_neg, Ts.q_e_cmp, Ts.q_e_cmp2, Ts.q_e_and, Ts.q_e_or, Ts.q_e_not, Ts.q_e_ite, Ts.q_e_tup, Ts.q_e_lst, Ts.q_e_ix, Ts.q_e_sl, Ts.q_e_call, Ts.q_e_bi, Ts.q_e_mt, Ts.q_e_dic, Ts.q_e_dce, Ts.q_e_lrng, Ts.q_e_ise, Ts.q_es_n, Ts.q_es_c, Ts.q_os_n, Ts.q_os_c, Ts.q_oe_n, Ts.q_oe_s, Ts.q_if_n, Ts.q_if_s, Ts.q_it_of, Ts.q_it_r1, Ts.q_it_r2, Ts.q_it_en, Ts.q_it_z2, Ts.q_it_z3, Ts.q_nt_l, Ts.q_nt_s, Ts.q_im_s, Ts.q_im_l, Ts.q_im_t, Ts.q_s_set, Ts.q_s_new, Ts.q_s_unp, Ts.q_s_app, Ts.q_s_seti, Ts.q_s_ret, Ts.q_s_retn, Ts.q_s_ife, Ts.q_s_ex, Ts.q_s_pas, Ts.q_s_brk, Ts.q_s_cnt, Ts.q_s_rse, Ts.q_s_tri, Ts.q_ss_n, Ts.q_ss_c, Ts.q_tg_x, Ts.q_tg_xs, Ts.q_st_n, Ts.q_st_c, Ts.q_b_add_i, Ts.q_b_add_s, Ts.q_b_add_l, Ts.q_b_add_t, Ts.q_b_sub_i, Ts.q_b_mul_i, Ts.q_b_mul_s, Ts.q_b_fdiv_i, Ts.q_b_mod_i, Ts.q_b_pow_i, Ts.q_c_eq_a, Ts.q_c_ne_a, Ts.q_c_lt_i, Ts.q_c_le_i, Ts.q_c_gt_i, Ts.q_c_ge_i, Ts.q_c_is_b, Ts.q_c_isn_b, Ts.q_c_in__s, Ts.q_c_nin_s, Ts.q_c_in__t_int, Ts.q_c_nin_t_int, Ts.q_c_in__t_str, Ts.q_c_nin_t_str, Ts.q_c_in__t_bl, Ts.q_c_nin_t_bl, Ts.q_c_is_n, Ts.q_c_isn_n, Ts.q_c_in__l, Ts.q_c_nin_l, Ts.q_nn_non, Ts.q_nn_bl, Ts.q_nn_int, Ts.q_nn_str, Ts.q_nn_tup, Ts.q_nn_lst, Ts.q_nn_dct, Ts.q_i_s, Ts.q_i_l, Ts.q_i_t, Ts.q_sl_s, Ts.q_sl_l, Ts.q_sl_t, Ts.q_f_len_s, Ts.q_f_len_l, Ts.q_f_len_t, Ts.q_f_abs, Ts.q_f_int_i, Ts.q_f_int_b, Ts.q_f_str, Ts.q_f_list_l, Ts.q_f_list_t, Ts.q_f_tup_l, Ts.q_f_tup_t, Ts.q_f_sum, Ts.q_f_all, Ts.q_f_any, Ts.q_f_max2, Ts.q_f_min2, Ts.q_f_maxl, Ts.q_f_minl, Ts.q_f_isi, Ts.q_m_join, Ts.q_m_upper, Ts.q_m_lower, Ts.q_m_islower, Ts.q_m_isupper, Ts.q_m_isdigit, Ts.q_m_isalnum, Ts.q_m_split, Ts.q_isstr, Ts.q_ni_non, Ts.q_is_str_non, Ts.q_is_tuple_non, Ts.q_is_int_non, Ts.q_is_bool_non, Ts.q_is_list_non, Ts.q_ni_bl, Ts.q_is_str_bl, Ts.q_is_tuple_bl, Ts.q_is_int_bl, Ts.q_is_bool_bl, Ts.q_is_list_bl, Ts.q_ni_int, Ts.q_is_str_int, Ts.q_is_tuple_int, Ts.q_is_int_int, Ts.q_is_bool_int, Ts.q_is_list_int, Ts.q_ni_str, Ts.q_is_str_str, Ts.q_is_tuple_str, Ts.q_is_int_str, Ts.q_is_bool_str, Ts.q_is_list_str, Ts.q_ni_tup, Ts.q_is_str_tup, Ts.q_is_tuple_tup, Ts.q_is_int_tup, Ts.q_is_bool_tup, Ts.q_is_list_tup, Ts.q_ni_lst, Ts.q_is_str_lst, Ts.q_is_tuple_lst, Ts.q_is_int_lst, Ts.q_is_bool_lst, Ts.q_is_list_lst, Ts.q_ni_dct, Ts.q_is_str_dct, Ts.q_is_tuple_dct, Ts.q_is_int_dct, Ts.q_is_bool_dct, Ts.q_is_list_dct, Ts.q_s_for, Ts.q_s_whl, Ts.q_e_lc, Option.some.injEq, exists_eq_left', exists_eq_left, D.bl.injEq, D.int.injEq, D.str.injEq, D.lst.injEq, D.tup.injEq, Ts.Sl.lst.injEq, List.map_cons, List.map_nil, List.length_cons, List.length_nil, List.getElem?_cons_zero, List.getElem?_cons_succ, List.set_cons_zero, List.set_cons_succ, and_true, true_and, exists_and_left, if_true, if_false, Bool.false_eq_true, reduceIte, reduceCtorEq, Bool.not_true, Bool.not_false]
    refine ⟨kn_ok k hk, by decide, ?_⟩
    have fin : ∀ b : Bool, b = ofKind k t[i] → if b = true then RSt k t (.int (i : Int)) (some (.int (i : Int))) else RSt k t (.int (i : Int)) none := fun b hb => by
      cases b with
      | true => exact ⟨i, t[i], rfl, hc, by rw [← hb]; rfl⟩
      | false => exact ⟨i, t[i], rfl, hc, by rw [← hb]; rfl⟩
    by_cases h : k = kAny
    · rw [if_pos (by rw [h]; rfl)]
      have q := fin true (by rw [h]; rfl)
      rw [if_pos rfl] at q
      exact q
    · rw [if_neg (by simp only [beq_iff_eq]; exact h)]
      refine ⟨by show t.length ≤ 16777216; omega, t[i], L2.atI_nat hc, ?_⟩
      simp only [x_kind, r_kind, forall_eq, false_implies, implies_true, eq_str, Ts.q_o_v, Ts.q_o_k, Ts.q_o_g, Ts.q_o_bin, Ts.q_o_neg, Ts.q_o_cmp, Ts.q_o_cmp2, Ts.q_o_and, Ts.q_o_or, Ts.q_o_not, Ts.q_o_ite, Ts.q_o_tup, Ts.q_o_lst, Ts.q_o_ix, Ts.q_o_sl, Ts.q_o_call, Ts.q_o_bi, Ts.q_o_mt, Ts.q_o_lc, Ts.q_o_lrng, Ts.q_o_dic, Ts.q_o_dce, Ts.q_o_ise, Ts.q_o_o, Ts.q_od_v, Ts.q_od_o, Ts.q_ods_n, Ts.q_ods_c, Ts.q_sv_v, Ts.q_sv_l, Ts.q_own_l, Ts.q_isl_l, Ts.q_vs_v, Ts.q_vs_l, Ts.q_e_v, Ts.q_e_k, Ts.q_e_g, Ts.q_e_bin, Ts.q_e_neg, Ts.q_e_cmp, Ts.q_e_cmp2, Ts.q_e_and, Ts.q_e_or, Ts.q_e_not, Ts.q_e_ite, Ts.q_e_tup, Ts.q_e_lst, Ts.q_e_ix, Ts.q_e_sl, Ts.q_e_call, Ts.q_e_bi, Ts.q_e_mt, Ts.q_e_dic, Ts.q_e_dce, Ts.q_e_lrng, Ts.q_e_ise, Ts.q_es_n, Ts.q_es_c, Ts.q_os_n, Ts.q_os_c, Ts.q_oe_n, Ts.q_oe_s, Ts.q_if_n, Ts.q_if_s, Ts.q_it_of, Ts.q_it_r1, Ts.q_it_r2, Ts.q_it_en, Ts.q_it_z2, Ts.q_it_z3, Ts.q_nt_l, Ts.q_nt_s, Ts.q_im_s, Ts.q_im_l, Ts.q_im_t, Ts.q_s_set, Ts.q_s_new, Ts.q_s_unp, Ts.q_s_app, Ts.q_s_seti, Ts.q_s_ret, Ts.q_s_retn, Ts.q_s_ife, Ts.q_s_ex, Ts.q_s_pas, Ts.q_s_brk, Ts.q_s_cnt, Ts.q_s_rse, Ts.q_s_tri, Ts.q_ss_n, Ts.q_ss_c, Ts.q_tg_x, Ts.q_tg_xs, Ts.q_st_n, Ts.q_st_c, Ts.q_b_add_i, Ts.q_b_add_s, Ts.q_b_add_l, Ts.q_b_add_t, Ts.q_b_sub_i, Ts.q_b_mul_i, Ts.q_b_mul_s, Ts.q_b_fdiv_i, Ts.q_b_mod_i, Ts.q_b_pow_i, Ts.q_c_eq_a, Ts.q_c_ne_a, Ts.q_c_lt_i, Ts.q_c_le_i, Ts.q_c_gt_i, Ts.q_c_ge_i, Ts.q_c_is_b, Ts.q_c_isn_b, Ts.q_c_in__s, Ts.q_c_nin_s, Ts.q_c_in__t_int, Ts.q_c_nin_t_int, Ts.q_c_in__t_str, Ts.q_c_nin_t_str, Ts.q_c_in__t_bl, Ts.q_c_nin_t_bl, Ts.q_c_is_n, Ts.q_c_isn_n, Ts.q_c_in__l, Ts.q_c_nin_l, Ts.q_nn_non, Ts.q_nn_bl, Ts.q_nn_int, Ts.q_nn_str, Ts.q_nn_tup, Ts.q_nn_lst, Ts.q_nn_dct, Ts.q_i_s, Ts.q_i_l, Ts.q_i_t, Ts.q_sl_s, Ts.q_sl_l, Ts.q_sl_t, Ts.q_f_len_s, Ts.q_f_len_l, Ts.q_f_len_t, Ts.q_f_abs, Ts.q_f_int_i, Ts.q_f_int_b, Ts.q_f_str, Ts.q_f_list_l, Ts.q_f_list_t, Ts.q_f_tup_l, Ts.q_f_tup_t, Ts.q_f_sum, Ts.q_f_all, Ts.q_f_any, Ts.q_f_max2, Ts.q_f_min2, Ts.q_f_maxl, Ts.q_f_minl, Ts.q_f_isi, Ts.q_m_join, Ts.q_m_upper, Ts.q_m_lower, Ts.q_m_islower, Ts.q_m_isupper, Ts.q_m_isdigit, Ts.q_m_isalnum, Ts.q_m_split, Ts.q_isstr, Ts.q_ni_non, Ts.q_is_str_non, Ts.q_is_tuple_non, Ts.q_is_int_non, Ts.q_is_bool_non, Ts.q_is_list_non, Ts.q_ni_bl, Ts.q_is_str_bl, Ts.q_is_tuple_bl, Ts.q_is_int_bl, Ts.q_is_bool_bl, Ts.q_is_list_bl, Ts.q_ni_int, Ts.q_is_str_int, Ts.q_is_tuple_int, Ts.q_is_int_int, Ts.q_is_bool_int, Ts.q_is_list_int, Ts.q_ni_str, Ts.q_is_str_str, Ts.q_is_tuple_str, Ts.q_is_int_str, Ts.q_is_bool_str, Ts.q_is_list_str, Ts.q_ni_tup, Ts.q_is_str_tup, Ts.q_is_tuple_tup, Ts.q_is_int_tup, Ts.q_is_bool_tup, Ts.q_is_list_tup, Ts.q_ni_lst, Ts.q_is_str_lst, Ts.q_is_tuple_lst, Ts.q_is_int_lst, Ts.q_is_bool_lst, Ts.q_is_list_lst, Ts.q_ni_dct, Ts.q_is_str_dct, Ts.q_is_tuple_dct, Ts.q_is_int_dct, Ts.q_is_bool_dct, Ts.q_is_list_dct, Ts.q_s_for, Ts.q_s_whl, Ts.q_e_lc, Option.some.injEq, exists_eq_left', exists_eq_left, D.bl.injEq, D.int.injEq, D.str.injEq, D.lst.injEq, D.tup.injEq, Ts.Sl.lst.injEq, List.map_cons, List.map_nil, List.length_cons, List.length_nil, List.getElem?_cons_zero, List.getElem?_cons_succ, List.set_cons_zero, List.set_cons_succ, and_true, true_and, exists_and_left, if_true, if_false, Bool.false_eq_true, reduceIte, reduceCtorEq, Bool.not_true, Bool.not_false]
      refine ⟨rfl, t[i], ⟨rfl, ht _ (List.getElem_mem _)⟩, kn_ok _ (kindOf_mem _), kn_ok k hk, ?_⟩
      exact fin _ (by unfold ofKind; rw [show (k == kAny) = false from beq_eq_false_iff_ne.mpr h, Bool.false_or])
  · rw [rng_0] at f
    have q := fm_rng (k := k) (t := t) (fun i c o hc h => by
      obtain ⟨i', c', e1, e2, e3⟩ := h
      cases e1
      rw [hc] at e2
      cases e2
      exact e3) 0 t rfl f
    subst q
    generalize hst : stF k 0 t = s
    rw [show stands k t = s from hst] at e
    unfold spotBy at e
    have habs : (if n < 0 then -n else n) = (n.natAbs : Int) := by split <;> omega
    have oke : okN 40 (.str ed) = true := by
      simp only [List.mem_cons, List.not_mem_nil, or_false] at he
      rcases he with he | he <;> rw [he] <;> decide
    simp only [b__law_spot_2, List.length_map, habs, Ts.q_o_v, Ts.q_o_k, Ts.q_o_g, Ts.q_o_bin, Ts.q_o_neg, Ts.q_o_cmp, Ts.q_o_cmp2, Ts.q_o_and, Ts.q_o_or, Ts.q_o_not, Ts.q_o_ite, Ts.q_o_tup, Ts.q_o_lst, Ts.q_o_ix, Ts.q_o_sl, Ts.q_o_call, Ts.q_o_bi, Ts.q_o_mt, Ts.q_o_lc, Ts.q_o_lrng, Ts.q_o_dic, Ts.q_o_dce, Ts.q_o_ise, Ts.q_o_o, Ts.q_od_v, Ts.q_od_o, Ts.q_ods_n, Ts.q_ods_c, Ts.q_sv_v, Ts.q_sv_l, Ts.q_own_l, Ts.q_isl_l, Ts.q_vs_v, Ts.q_vs_l, Ts.q_e_v, Ts.q_e_k, Ts.q_e_g, Ts.q_e_bin, Ts.q_e_neg, Ts.q_e_cmp, Ts.q_e_cmp2, Ts.q_e_and, Ts.q_e_or, Ts.q_e_not, Ts.q_e_ite, Ts.q_e_tup, Ts.q_e_lst, Ts.q_e_ix, Ts.q_e_sl, Ts.q_e_call, Ts.q_e_bi, Ts.q_e_mt, Ts.q_e_dic, Ts.q_e_dce, Ts.q_e_lrng, Ts.q_e_ise, Ts.q_es_n, Ts.q_es_c, Ts.q_os_n, Ts.q_os_c, Ts.q_oe_n, Ts.q_oe_s, Ts.q_if_n, Ts.q_if_s, Ts.q_it_of, Ts.q_it_r1, Ts.q_it_r2, Ts.q_it_en, Ts.q_it_z2, Ts.q_it_z3, Ts.q_nt_l, Ts.q_nt_s, Ts.q_im_s, Ts.q_im_l, Ts.q_im_t, Ts.q_s_set, Ts.q_s_new, Ts.q_s_unp, Ts.q_s_app, Ts.q_s_seti, Ts.q_s_ret, Ts.q_s_retn, Ts.q_s_ife, Ts.q_s_ex, Ts.q_s_pas, Ts.q_s_brk, Ts.q_s_cnt, Ts.q_s_rse, Ts.q_s_tri, Ts.q_ss_n, Ts.q_ss_c, Ts.q_tg_x, Ts.q_tg_xs, Ts.q_st_n, Ts.q_st_c, Ts.q_b_add_i, Ts.q_b_add_s, Ts.q_b_add_l, Ts.q_b_add_t, Ts.q_b_sub_i, Ts.q_b_mul_i, Ts.q_b_mul_s, Ts.q_b_fdiv_i, Ts.q_b_mod_i, Ts.q_b_pow_i, Ts.q_c_eq_a, Ts.q_c_ne_a, Ts.q_c_lt_i, Ts.q_c_le_i, Ts.q_c_gt_i, Ts.q_c_ge_i, Ts.q_c_is_b, Ts.q_c_isn_b, Ts.q_c_in__s, Ts.q_c_nin_s, Ts.q_c_in__t_int, Ts.q_c_nin_t_int, Ts.q_c_in__t_str, Ts.q_c_nin_t_str, Ts.q_c_in__t_bl, Ts.q_c_nin_t_bl, Ts.q_c_is_n, Ts.q_c_isn_n, Ts.q_c_in__l, Ts.q_c_nin_l, Ts.q_nn_non, Ts.q_nn_bl, Ts.q_nn_int, Ts.q_nn_str, Ts.q_nn_tup, Ts.q_nn_lst, Ts.q_nn_dct, Ts.q_i_s, Ts.q_i_l, Ts.q_i_t, Ts.q_sl_s, Ts.q_sl_l, Ts.q_sl_t, Ts.q_f_len_s, Ts.q_f_len_l, Ts.q_f_len_t, Ts.q_f_abs, Ts.q_f_int_i, Ts.q_f_int_b, Ts.q_f_str, Ts.q_f_list_l, Ts.q_f_list_t, Ts.q_f_tup_l, Ts.q_f_tup_t, Ts.q_f_sum, Ts.q_f_all, Ts.q_f_any, Ts.q_f_max2, Ts.q_f_min2, Ts.q_f_maxl, Ts.q_f_minl, Ts.q_f_isi, Ts.q_m_join, Ts.q_m_upper, Ts.q_m_lower, Ts.q_m_islower, Ts.q_m_isupper, Ts.q_m_isdigit, Ts.q_m_isalnum, Ts.q_m_split, Ts.q_isstr, Ts.q_ni_non, Ts.q_is_str_non, Ts.q_is_tuple_non, Ts.q_is_int_non, Ts.q_is_bool_non, Ts.q_is_list_non, Ts.q_ni_bl, Ts.q_is_str_bl, Ts.q_is_tuple_bl, Ts.q_is_int_bl, Ts.q_is_bool_bl, Ts.q_is_list_bl, Ts.q_ni_int, Ts.q_is_str_int, Ts.q_is_tuple_int, Ts.q_is_int_int, Ts.q_is_bool_int, Ts.q_is_list_int, Ts.q_ni_str, Ts.q_is_str_str, Ts.q_is_tuple_str, Ts.q_is_int_str, Ts.q_is_bool_str, Ts.q_is_list_str, Ts.q_ni_tup, Ts.q_is_str_tup, Ts.q_is_tuple_tup, Ts.q_is_int_tup, Ts.q_is_bool_tup, Ts.q_is_list_tup, Ts.q_ni_lst, Ts.q_is_str_lst, Ts.q_is_tuple_lst, Ts.q_is_int_lst, Ts.q_is_bool_lst, Ts.q_is_list_lst, Ts.q_ni_dct, Ts.q_is_str_dct, Ts.q_is_tuple_dct, Ts.q_is_int_dct, Ts.q_is_bool_dct, Ts.q_is_list_dct, Ts.q_s_for, Ts.q_s_whl, Ts.q_e_lc, Option.some.injEq, exists_eq_left', exists_eq_left, D.bl.injEq, D.int.injEq, D.str.injEq, D.lst.injEq, D.tup.injEq, Ts.Sl.lst.injEq, List.map_cons, List.map_nil, List.length_cons, List.length_nil, List.getElem?_cons_zero, List.getElem?_cons_succ, List.set_cons_zero, List.set_cons_succ, and_true, true_and, exists_and_left, if_true, if_false, Bool.false_eq_true, reduceIte, reduceCtorEq, Bool.not_true, Bool.not_false]
    by_cases h : s.length < n.natAbs
    · rw [if_pos (decide_eq_true (by omega))]
      rw [if_pos h] at e
      exact e _ _ rfl
    · rw [if_neg (by simp only [decide_eq_true_eq]; omega)]
      rw [if_neg h] at e
      obtain ⟨v, h1, h2⟩ := nat_nth (s := s) hn h
      rw [h1] at e
      have fin : ∀ (w : Nat) ρ, w = v + (if ed = eBehind then 1 else 0) → P.rt (.int (w : Nat)) ρ := fun w ρ hw => e _ _ (by
        rw [hw, Option.map_some]
        split <;> rfl)
      have beh : ∀ ρ, P.rt (.int ((v : Int) + if (ed == [98, 101, 104, 105, 110, 100]) = true then 1 else 0)) ρ := fun ρ => by
        by_cases hb : ed = eBehind
        · rw [if_pos (by rw [hb]; rfl)]; exact fin (v + 1) ρ (by rw [if_pos hb])
        · rw [if_neg (by simp only [beq_iff_eq]; exact hb), Int.add_zero]; exact fin v ρ (by rw [if_neg hb]; rfl)
      simp only [b__law_spot_3, Ts.q_o_v, Ts.q_o_k, Ts.q_o_g, Ts.q_o_bin, Ts.q_o_neg, Ts.q_o_cmp, Ts.q_o_cmp2, Ts.q_o_and, Ts.q_o_or, Ts.q_o_not, Ts.q_o_ite, Ts.q_o_tup, Ts.q_o_lst, Ts.q_o_ix, Ts.q_o_sl, Ts.q_o_call, Ts.q_o_bi, Ts.q_o_mt, Ts.q_o_lc, Ts.q_o_lrng, Ts.q_o_dic, Ts.q_o_dce, Ts.q_o_ise, Ts.q_o_o, Ts.q_od_v, Ts.q_od_o, Ts.q_ods_n, Ts.q_ods_c, Ts.q_sv_v, Ts.q_sv_l, Ts.q_own_l, Ts.q_isl_l, Ts.q_vs_v, Ts.q_vs_l, Ts.q_e_v, Ts.q_e_k, Ts.q_e_g, Ts.q_e_bin, Ts.q_e_neg, Ts.q_e_cmp, Ts.q_e_cmp2, Ts.q_e_and, Ts.q_e_or, Ts.q_e_not, Ts.q_e_ite, Ts.q_e_tup, Ts.q_e_lst, Ts.q_e_ix, Ts.q_e_sl, Ts.q_e_call, Ts.q_e_bi, Ts.q_e_mt, Ts.q_e_dic, Ts.q_e_dce, Ts.q_e_lrng, Ts.q_e_ise, Ts.q_es_n, Ts.q_es_c, Ts.q_os_n, Ts.q_os_c, Ts.q_oe_n, Ts.q_oe_s, Ts.q_if_n, Ts.q_if_s, Ts.q_it_of, Ts.q_it_r1, Ts.q_it_r2, Ts.q_it_en, Ts.q_it_z2, Ts.q_it_z3, Ts.q_nt_l, Ts.q_nt_s, Ts.q_im_s, Ts.q_im_l, Ts.q_im_t, Ts.q_s_set, Ts.q_s_new, Ts.q_s_unp, Ts.q_s_app, Ts.q_s_seti, Ts.q_s_ret, Ts.q_s_retn, Ts.q_s_ife, Ts.q_s_ex, Ts.q_s_pas, Ts.q_s_brk, Ts.q_s_cnt, Ts.q_s_rse, Ts.q_s_tri, Ts.q_ss_n, Ts.q_ss_c, Ts.q_tg_x, Ts.q_tg_xs, Ts.q_st_n, Ts.q_st_c, Ts.q_b_add_i, Ts.q_b_add_s, Ts.q_b_add_l, Ts.q_b_add_t, Ts.q_b_sub_i, Ts.q_b_mul_i, Ts.q_b_mul_s, Ts.q_b_fdiv_i, Ts.q_b_mod_i, Ts.q_b_pow_i, Ts.q_c_eq_a, Ts.q_c_ne_a, Ts.q_c_lt_i, Ts.q_c_le_i, Ts.q_c_gt_i, Ts.q_c_ge_i, Ts.q_c_is_b, Ts.q_c_isn_b, Ts.q_c_in__s, Ts.q_c_nin_s, Ts.q_c_in__t_int, Ts.q_c_nin_t_int, Ts.q_c_in__t_str, Ts.q_c_nin_t_str, Ts.q_c_in__t_bl, Ts.q_c_nin_t_bl, Ts.q_c_is_n, Ts.q_c_isn_n, Ts.q_c_in__l, Ts.q_c_nin_l, Ts.q_nn_non, Ts.q_nn_bl, Ts.q_nn_int, Ts.q_nn_str, Ts.q_nn_tup, Ts.q_nn_lst, Ts.q_nn_dct, Ts.q_i_s, Ts.q_i_l, Ts.q_i_t, Ts.q_sl_s, Ts.q_sl_l, Ts.q_sl_t, Ts.q_f_len_s, Ts.q_f_len_l, Ts.q_f_len_t, Ts.q_f_abs, Ts.q_f_int_i, Ts.q_f_int_b, Ts.q_f_str, Ts.q_f_list_l, Ts.q_f_list_t, Ts.q_f_tup_l, Ts.q_f_tup_t, Ts.q_f_sum, Ts.q_f_all, Ts.q_f_any, Ts.q_f_max2, Ts.q_f_min2, Ts.q_f_maxl, Ts.q_f_minl, Ts.q_f_isi, Ts.q_m_join, Ts.q_m_upper, Ts.q_m_lower, Ts.q_m_islower, Ts.q_m_isupper, Ts.q_m_isdigit, Ts.q_m_isalnum, Ts.q_m_split, Ts.q_isstr, Ts.q_ni_non, Ts.q_is_str_non, Ts.q_is_tuple_non, Ts.q_is_int_non, Ts.q_is_bool_non, Ts.q_is_list_non, Ts.q_ni_bl, Ts.q_is_str_bl, Ts.q_is_tuple_bl, Ts.q_is_int_bl, Ts.q_is_bool_bl, Ts.q_is_list_bl, Ts.q_ni_int, Ts.q_is_str_int, Ts.q_is_tuple_int, Ts.q_is_int_int, Ts.q_is_bool_int, Ts.q_is_list_int, Ts.q_ni_str, Ts.q_is_str_str, Ts.q_is_tuple_str, Ts.q_is_int_str, Ts.q_is_bool_str, Ts.q_is_list_str, Ts.q_ni_tup, Ts.q_is_str_tup, Ts.q_is_tuple_tup, Ts.q_is_int_tup, Ts.q_is_bool_tup, Ts.q_is_list_tup, Ts.q_ni_lst, Ts.q_is_str_lst, Ts.q_is_tuple_lst, Ts.q_is_int_lst, Ts.q_is_bool_lst, Ts.q_is_list_lst, Ts.q_ni_dct, Ts.q_is_str_dct, Ts.q_is_tuple_dct, Ts.q_is_int_dct, Ts.q_is_bool_dct, Ts.q_is_list_dct, Ts.q_s_for, Ts.q_s_whl, Ts.q_e_lc, Option.some.injEq, exists_eq_left', exists_eq_left, D.bl.injEq, D.int.injEq, D.str.injEq, D.lst.injEq, D.tup.injEq, Ts.Sl.lst.injEq, List.map_cons, List.map_nil, List.length_cons, List.length_nil, List.getElem?_cons_zero, List.getElem?_cons_succ, List.set_cons_zero, List.set_cons_succ, and_true, true_and, exists_and_left, if_true, if_false, Bool.false_eq_true, reduceIte, reduceCtorEq, Bool.not_true, Bool.not_false]
      by_cases hp : 0 < n
      · rw [if_pos (decide_eq_true hp)]
        rw [if_pos hp] at h2
        refine ⟨_, atI_dN h2, ?_⟩
        simp only [eq_str, Ts.q_o_v, Ts.q_o_k, Ts.q_o_g, Ts.q_o_bin, Ts.q_o_neg, Ts.q_o_cmp, Ts.q_o_cmp2, Ts.q_o_and, Ts.q_o_or, Ts.q_o_not, Ts.q_o_ite, Ts.q_o_tup, Ts.q_o_lst, Ts.q_o_ix, Ts.q_o_sl, Ts.q_o_call, Ts.q_o_bi, Ts.q_o_mt, Ts.q_o_lc, Ts.q_o_lrng, Ts.q_o_dic, Ts.q_o_dce, Ts.q_o_ise, Ts.q_o_o, Ts.q_od_v, Ts.q_od_o, Ts.q_ods_n, Ts.q_ods_c, Ts.q_sv_v, Ts.q_sv_l, Ts.q_own_l, Ts.q_isl_l, Ts.q_vs_v, Ts.q_vs_l, Ts.q_e_v, Ts.q_e_k, Ts.q_e_g, Ts.q_e_bin, Ts.q_e_neg, Ts.q_e_cmp, Ts.q_e_cmp2, Ts.q_e_and, Ts.q_e_or, Ts.q_e_not, Ts.q_e_ite, Ts.q_e_tup, Ts.q_e_lst, Ts.q_e_ix, Ts.q_e_sl, Ts.q_e_call, Ts.q_e_bi, Ts.q_e_mt, Ts.q_e_dic, Ts.q_e_dce, Ts.q_e_lrng, Ts.q_e_ise, Ts.q_es_n, Ts.q_es_c, Ts.q_os_n, Ts.q_os_c, Ts.q_oe_n, Ts.q_oe_s, Ts.q_if_n, Ts.q_if_s, Ts.q_it_of, Ts.q_it_r1, Ts.q_it_r2, Ts.q_it_en, Ts.q_it_z2, Ts.q_it_z3, Ts.q_nt_l, Ts.q_nt_s, Ts.q_im_s, Ts.q_im_l, Ts.q_im_t, Ts.q_s_set, Ts.q_s_new, Ts.q_s_unp, Ts.q_s_app, Ts.q_s_seti, Ts.q_s_ret, Ts.q_s_retn, Ts.q_s_ife, Ts.q_s_ex, Ts.q_s_pas, Ts.q_s_brk, Ts.q_s_cnt, Ts.q_s_rse, Ts.q_s_tri, Ts.q_ss_n, Ts.q_ss_c, Ts.q_tg_x, Ts.q_tg_xs, Ts.q_st_n, Ts.q_st_c, Ts.q_b_add_i, Ts.q_b_add_s, Ts.q_b_add_l, Ts.q_b_add_t, Ts.q_b_sub_i, Ts.q_b_mul_i, Ts.q_b_mul_s, Ts.q_b_fdiv_i, Ts.q_b_mod_i, Ts.q_b_pow_i, Ts.q_c_eq_a, Ts.q_c_ne_a, Ts.q_c_lt_i, Ts.q_c_le_i, Ts.q_c_gt_i, Ts.q_c_ge_i, Ts.q_c_is_b, Ts.q_c_isn_b, Ts.q_c_in__s, Ts.q_c_nin_s, Ts.q_c_in__t_int, Ts.q_c_nin_t_int, Ts.q_c_in__t_str, Ts.q_c_nin_t_str, Ts.q_c_in__t_bl, Ts.q_c_nin_t_bl, Ts.q_c_is_n, Ts.q_c_isn_n, Ts.q_c_in__l, Ts.q_c_nin_l, Ts.q_nn_non, Ts.q_nn_bl, Ts.q_nn_int, Ts.q_nn_str, Ts.q_nn_tup, Ts.q_nn_lst, Ts.q_nn_dct, Ts.q_i_s, Ts.q_i_l, Ts.q_i_t, Ts.q_sl_s, Ts.q_sl_l, Ts.q_sl_t, Ts.q_f_len_s, Ts.q_f_len_l, Ts.q_f_len_t, Ts.q_f_abs, Ts.q_f_int_i, Ts.q_f_int_b, Ts.q_f_str, Ts.q_f_list_l, Ts.q_f_list_t, Ts.q_f_tup_l, Ts.q_f_tup_t, Ts.q_f_sum, Ts.q_f_all, Ts.q_f_any, Ts.q_f_max2, Ts.q_f_min2, Ts.q_f_maxl, Ts.q_f_minl, Ts.q_f_isi, Ts.q_m_join, Ts.q_m_upper, Ts.q_m_lower, Ts.q_m_islower, Ts.q_m_isupper, Ts.q_m_isdigit, Ts.q_m_isalnum, Ts.q_m_split, Ts.q_isstr, Ts.q_ni_non, Ts.q_is_str_non, Ts.q_is_tuple_non, Ts.q_is_int_non, Ts.q_is_bool_non, Ts.q_is_list_non, Ts.q_ni_bl, Ts.q_is_str_bl, Ts.q_is_tuple_bl, Ts.q_is_int_bl, Ts.q_is_bool_bl, Ts.q_is_list_bl, Ts.q_ni_int, Ts.q_is_str_int, Ts.q_is_tuple_int, Ts.q_is_int_int, Ts.q_is_bool_int, Ts.q_is_list_int, Ts.q_ni_str, Ts.q_is_str_str, Ts.q_is_tuple_str, Ts.q_is_int_str, Ts.q_is_bool_str, Ts.q_is_list_str, Ts.q_ni_tup, Ts.q_is_str_tup, Ts.q_is_tuple_tup, Ts.q_is_int_tup, Ts.q_is_bool_tup, Ts.q_is_list_tup, Ts.q_ni_lst, Ts.q_is_str_lst, Ts.q_is_tuple_lst, Ts.q_is_int_lst, Ts.q_is_bool_lst, Ts.q_is_list_lst, Ts.q_ni_dct, Ts.q_is_str_dct, Ts.q_is_tuple_dct, Ts.q_is_int_dct, Ts.q_is_bool_dct, Ts.q_is_list_dct, Ts.q_s_for, Ts.q_s_whl, Ts.q_e_lc, Option.some.injEq, exists_eq_left', exists_eq_left, D.bl.injEq, D.int.injEq, D.str.injEq, D.lst.injEq, D.tup.injEq, Ts.Sl.lst.injEq, List.map_cons, List.map_nil, List.length_cons, List.length_nil, List.getElem?_cons_zero, List.getElem?_cons_succ, List.set_cons_zero, List.set_cons_succ, and_true, true_and, exists_and_left, if_true, if_false, Bool.false_eq_true, reduceIte, reduceCtorEq, Bool.not_true, Bool.not_false]
        exact ⟨oke, by decide, beh _⟩
      · rw [if_neg (by simpa using hp)]
        rw [if_neg hp] at h2
        simp only [b__law_spot_4, Ts.q_o_v, Ts.q_o_k, Ts.q_o_g, Ts.q_o_bin, Ts.q_o_neg, Ts.q_o_cmp, Ts.q_o_cmp2, Ts.q_o_and, Ts.q_o_or, Ts.q_o_not, Ts.q_o_ite, Ts.q_o_tup, Ts.q_o_lst, Ts.q_o_ix, Ts.q_o_sl, Ts.q_o_call, Ts.q_o_bi, Ts.q_o_mt, Ts.q_o_lc, Ts.q_o_lrng, Ts.q_o_dic, Ts.q_o_dce, Ts.q_o_ise, Ts.q_o_o, Ts.q_od_v, Ts.q_od_o, Ts.q_ods_n, Ts.q_ods_c, Ts.q_sv_v, Ts.q_sv_l, Ts.q_own_l, Ts.q_isl_l, Ts.q_vs_v, Ts.q_vs_l, Ts.q_e_v, Ts.q_e_k, Ts.q_e_g, Ts.q_e_bin, Ts.q_e_neg, Ts.q_e_cmp, Ts.q_e_cmp2, Ts.q_e_and, Ts.q_e_or, Ts.q_e_not, Ts.q_e_ite, Ts.q_e_tup, Ts.q_e_lst, Ts.q_e_ix, Ts.q_e_sl, Ts.q_e_call, Ts.q_e_bi, Ts.q_e_mt, Ts.q_e_dic, Ts.q_e_dce, Ts.q_e_lrng, Ts.q_e_ise, Ts.q_es_n, Ts.q_es_c, Ts.q_os_n, Ts.q_os_c, Ts.q_oe_n, Ts.q_oe_s, Ts.q_if_n, Ts.q_if_s, Ts.q_it_of, Ts.q_it_r1, Ts.q_it_r2, Ts.q_it_en, Ts.q_it_z2, Ts.q_it_z3, Ts.q_nt_l, Ts.q_nt_s, Ts.q_im_s, Ts.q_im_l, Ts.q_im_t, Ts.q_s_set, Ts.q_s_new, Ts.q_s_unp, Ts.q_s_app, Ts.q_s_seti, Ts.q_s_ret, Ts.q_s_retn, Ts.q_s_ife, Ts.q_s_ex, Ts.q_s_pas, Ts.q_s_brk, Ts.q_s_cnt, Ts.q_s_rse, Ts.q_s_tri, Ts.q_ss_n, Ts.q_ss_c, Ts.q_tg_x, Ts.q_tg_xs, Ts.q_st_n, Ts.q_st_c, Ts.q_b_add_i, Ts.q_b_add_s, Ts.q_b_add_l, Ts.q_b_add_t, Ts.q_b_sub_i, Ts.q_b_mul_i, Ts.q_b_mul_s, Ts.q_b_fdiv_i, Ts.q_b_mod_i, Ts.q_b_pow_i, Ts.q_c_eq_a, Ts.q_c_ne_a, Ts.q_c_lt_i, Ts.q_c_le_i, Ts.q_c_gt_i, Ts.q_c_ge_i, Ts.q_c_is_b, Ts.q_c_isn_b, Ts.q_c_in__s, Ts.q_c_nin_s, Ts.q_c_in__t_int, Ts.q_c_nin_t_int, Ts.q_c_in__t_str, Ts.q_c_nin_t_str, Ts.q_c_in__t_bl, Ts.q_c_nin_t_bl, Ts.q_c_is_n, Ts.q_c_isn_n, Ts.q_c_in__l, Ts.q_c_nin_l, Ts.q_nn_non, Ts.q_nn_bl, Ts.q_nn_int, Ts.q_nn_str, Ts.q_nn_tup, Ts.q_nn_lst, Ts.q_nn_dct, Ts.q_i_s, Ts.q_i_l, Ts.q_i_t, Ts.q_sl_s, Ts.q_sl_l, Ts.q_sl_t, Ts.q_f_len_s, Ts.q_f_len_l, Ts.q_f_len_t, Ts.q_f_abs, Ts.q_f_int_i, Ts.q_f_int_b, Ts.q_f_str, Ts.q_f_list_l, Ts.q_f_list_t, Ts.q_f_tup_l, Ts.q_f_tup_t, Ts.q_f_sum, Ts.q_f_all, Ts.q_f_any, Ts.q_f_max2, Ts.q_f_min2, Ts.q_f_maxl, Ts.q_f_minl, Ts.q_f_isi, Ts.q_m_join, Ts.q_m_upper, Ts.q_m_lower, Ts.q_m_islower, Ts.q_m_isupper, Ts.q_m_isdigit, Ts.q_m_isalnum, Ts.q_m_split, Ts.q_isstr, Ts.q_ni_non, Ts.q_is_str_non, Ts.q_is_tuple_non, Ts.q_is_int_non, Ts.q_is_bool_non, Ts.q_is_list_non, Ts.q_ni_bl, Ts.q_is_str_bl, Ts.q_is_tuple_bl, Ts.q_is_int_bl, Ts.q_is_bool_bl, Ts.q_is_list_bl, Ts.q_ni_int, Ts.q_is_str_int, Ts.q_is_tuple_int, Ts.q_is_int_int, Ts.q_is_bool_int, Ts.q_is_list_int, Ts.q_ni_str, Ts.q_is_str_str, Ts.q_is_tuple_str, Ts.q_is_int_str, Ts.q_is_bool_str, Ts.q_is_list_str, Ts.q_ni_tup, Ts.q_is_str_tup, Ts.q_is_tuple_tup, Ts.q_is_int_tup, Ts.q_is_bool_tup, Ts.q_is_list_tup, Ts.q_ni_lst, Ts.q_is_str_lst, Ts.q_is_tuple_lst, Ts.q_is_int_lst, Ts.q_is_bool_lst, Ts.q_is_list_lst, Ts.q_ni_dct, Ts.q_is_str_dct, Ts.q_is_tuple_dct, Ts.q_is_int_dct, Ts.q_is_bool_dct, Ts.q_is_list_dct, Ts.q_s_for, Ts.q_s_whl, Ts.q_e_lc, Option.some.injEq, exists_eq_left', exists_eq_left, D.bl.injEq, D.int.injEq, D.str.injEq, D.lst.injEq, D.tup.injEq, Ts.Sl.lst.injEq, List.map_cons, List.map_nil, List.length_cons, List.length_nil, List.getElem?_cons_zero, List.getElem?_cons_succ, List.set_cons_zero, List.set_cons_succ, and_true, true_and, exists_and_left, if_true, if_false, Bool.false_eq_true, reduceIte, reduceCtorEq, Bool.not_true, Bool.not_false]
        refine ⟨_, atI_dN h2, ?_⟩
        simp only [eq_str, Ts.q_o_v, Ts.q_o_k, Ts.q_o_g, Ts.q_o_bin, Ts.q_o_neg, Ts.q_o_cmp, Ts.q_o_cmp2, Ts.q_o_and, Ts.q_o_or, Ts.q_o_not, Ts.q_o_ite, Ts.q_o_tup, Ts.q_o_lst, Ts.q_o_ix, Ts.q_o_sl, Ts.q_o_call, Ts.q_o_bi, Ts.q_o_mt, Ts.q_o_lc, Ts.q_o_lrng, Ts.q_o_dic, Ts.q_o_dce, Ts.q_o_ise, Ts.q_o_o, Ts.q_od_v, Ts.q_od_o, Ts.q_ods_n, Ts.q_ods_c, Ts.q_sv_v, Ts.q_sv_l, Ts.q_own_l, Ts.q_isl_l, Ts.q_vs_v, Ts.q_vs_l, Ts.q_e_v, Ts.q_e_k, Ts.q_e_g, Ts.q_e_bin, Ts.q_e_neg, Ts.q_e_cmp, Ts.q_e_cmp2, Ts.q_e_and, Ts.q_e_or, Ts.q_e_not, Ts.q_e_ite, Ts.q_e_tup, Ts.q_e_lst, Ts.q_e_ix, Ts.q_e_sl, Ts.q_e_call, Ts.q_e_bi, Ts.q_e_mt, Ts.q_e_dic, Ts.q_e_dce, Ts.q_e_lrng, Ts.q_e_ise, Ts.q_es_n, Ts.q_es_c, Ts.q_os_n, Ts.q_os_c, Ts.q_oe_n, Ts.q_oe_s, Ts.q_if_n, Ts.q_if_s, Ts.q_it_of, Ts.q_it_r1, Ts.q_it_r2, Ts.q_it_en, Ts.q_it_z2, Ts.q_it_z3, Ts.q_nt_l, Ts.q_nt_s, Ts.q_im_s, Ts.q_im_l, Ts.q_im_t, Ts.q_s_set, Ts.q_s_new, Ts.q_s_unp, Ts.q_s_app, Ts.q_s_seti, Ts.q_s_ret, Ts.q_s_retn, Ts.q_s_ife, Ts.q_s_ex, Ts.q_s_pas, Ts.q_s_brk, Ts.q_s_cnt, Ts.q_s_rse, Ts.q_s_tri, Ts.q_ss_n, Ts.q_ss_c, Ts.q_tg_x, Ts.q_tg_xs, Ts.q_st_n, Ts.q_st_c, Ts.q_b_add_i, Ts.q_b_add_s, Ts.q_b_add_l, Ts.q_b_add_t, Ts.q_b_sub_i, Ts.q_b_mul_i, Ts.q_b_mul_s, Ts.q_b_fdiv_i, Ts.q_b_mod_i, Ts.q_b_pow_i, Ts.q_c_eq_a, Ts.q_c_ne_a, Ts.q_c_lt_i, Ts.q_c_le_i, Ts.q_c_gt_i, Ts.q_c_ge_i, Ts.q_c_is_b, Ts.q_c_isn_b, Ts.q_c_in__s, Ts.q_c_nin_s, Ts.q_c_in__t_int, Ts.q_c_nin_t_int, Ts.q_c_in__t_str, Ts.q_c_nin_t_str, Ts.q_c_in__t_bl, Ts.q_c_nin_t_bl, Ts.q_c_is_n, Ts.q_c_isn_n, Ts.q_c_in__l, Ts.q_c_nin_l, Ts.q_nn_non, Ts.q_nn_bl, Ts.q_nn_int, Ts.q_nn_str, Ts.q_nn_tup, Ts.q_nn_lst, Ts.q_nn_dct, Ts.q_i_s, Ts.q_i_l, Ts.q_i_t, Ts.q_sl_s, Ts.q_sl_l, Ts.q_sl_t, Ts.q_f_len_s, Ts.q_f_len_l, Ts.q_f_len_t, Ts.q_f_abs, Ts.q_f_int_i, Ts.q_f_int_b, Ts.q_f_str, Ts.q_f_list_l, Ts.q_f_list_t, Ts.q_f_tup_l, Ts.q_f_tup_t, Ts.q_f_sum, Ts.q_f_all, Ts.q_f_any, Ts.q_f_max2, Ts.q_f_min2, Ts.q_f_maxl, Ts.q_f_minl, Ts.q_f_isi, Ts.q_m_join, Ts.q_m_upper, Ts.q_m_lower, Ts.q_m_islower, Ts.q_m_isupper, Ts.q_m_isdigit, Ts.q_m_isalnum, Ts.q_m_split, Ts.q_isstr, Ts.q_ni_non, Ts.q_is_str_non, Ts.q_is_tuple_non, Ts.q_is_int_non, Ts.q_is_bool_non, Ts.q_is_list_non, Ts.q_ni_bl, Ts.q_is_str_bl, Ts.q_is_tuple_bl, Ts.q_is_int_bl, Ts.q_is_bool_bl, Ts.q_is_list_bl, Ts.q_ni_int, Ts.q_is_str_int, Ts.q_is_tuple_int, Ts.q_is_int_int, Ts.q_is_bool_int, Ts.q_is_list_int, Ts.q_ni_str, Ts.q_is_str_str, Ts.q_is_tuple_str, Ts.q_is_int_str, Ts.q_is_bool_str, Ts.q_is_list_str, Ts.q_ni_tup, Ts.q_is_str_tup, Ts.q_is_tuple_tup, Ts.q_is_int_tup, Ts.q_is_bool_tup, Ts.q_is_list_tup, Ts.q_ni_lst, Ts.q_is_str_lst, Ts.q_is_tuple_lst, Ts.q_is_int_lst, Ts.q_is_bool_lst, Ts.q_is_list_lst, Ts.q_ni_dct, Ts.q_is_str_dct, Ts.q_is_tuple_dct, Ts.q_is_int_dct, Ts.q_is_bool_dct, Ts.q_is_list_dct, Ts.q_s_for, Ts.q_s_whl, Ts.q_e_lc, Option.some.injEq, exists_eq_left', exists_eq_left, D.bl.injEq, D.int.injEq, D.str.injEq, D.lst.injEq, D.tup.injEq, Ts.Sl.lst.injEq, List.map_cons, List.map_nil, List.length_cons, List.length_nil, List.getElem?_cons_zero, List.getElem?_cons_succ, List.set_cons_zero, List.set_cons_succ, and_true, true_and, exists_and_left, if_true, if_false, Bool.false_eq_true, reduceIte, reduceCtorEq, Bool.not_true, Bool.not_false]
        exact ⟨oke, by decide, beh _⟩
/-! ### whole numbers -/
def wholeB : D → Bool
  | .int _ => true
  | _ => false
def sp_whole : PSpec := { ar := 1, G := D, pre := fun g ds => ds = [g] ∧ noIns g = true, ret := fun g r => r = .bl (wholeB g) }
theorem r_whole {g d} : sp_whole.ret g d = (d = .bl (wholeB g)) := rfl
theorem x_whole {g c} : sp_whole.exc g c = False := rfl
def m_whole : Sm := { fn := [], cn := [] }
theorem w_whole (g : D) (ds : List D) (hl : ds.length = 1) (hp : sp_whole.pre g ds) : wpSs m_whole b__law_whole (rho0 1 ds) (pt sp_whole g) := by
  obtain ⟨rfl, hn⟩ := hp
  rw [show rho0 1 [g] = [.val g] from rfl]
  simp only [b__law_whole, m_whole, Ts.q_o_v, Ts.q_o_k, Ts.q_o_g, Ts.q_o_bin, Ts.q_o_neg, Ts.q_o_cmp, Ts.q_o_cmp2, Ts.q_o_and, Ts.q_o_or, Ts.q_o_not, Ts.q_o_ite, Ts.q_o_tup, Ts.q_o_lst, Ts.q_o_ix, Ts.q_o_sl, Ts.q_o_call, Ts.q_o_bi, Ts.q_o_mt, Ts.q_o_lc, Ts.q_o_lrng, Ts.q_o_dic, Ts.q_o_dce, Ts.q_o_ise, Ts.q_o_o, Ts.q_od_v, Ts.q_od_o, Ts.q_ods_n, Ts.q_ods_c, Ts.q_sv_v, Ts.q_sv_l, Ts.q_own_l, Ts.q_isl_l, Ts.q_vs_v, Ts.q_vs_l, Ts.q_e_v, Ts.q_e_k, Ts.q_e_g, Ts.q_e_bin, Ts.q_e_neg, Ts.q_e_cmp, Ts.q_e_cmp2, Ts.q_e_and, Ts.q_e_or, Ts.q_e_not, Ts.q_e_ite, Ts.q_e_tup, Ts.q_e_lst, Ts.q_e_ix, Ts.q_e_sl, Ts.q_e_call, Ts.q_e_bi, Ts.q_e_mt, Ts.q_e_dic, Ts.q_e_dce, Ts.q_e_lrng, Ts.q_e_ise, Ts.q_es_n, Ts.q_es_c, Ts.q_os_n, Ts.q_os_c, Ts.q_oe_n, Ts.q_oe_s, Ts.q_if_n, Ts.q_if_s, Ts.q_it_of, Ts.q_it_r1, Ts.q_it_r2, Ts.q_it_en, Ts.q_it_z2, Ts.q_it_z3, Ts.q_nt_l, Ts.q_nt_s, Ts.q_im_s, Ts.q_im_l, Ts.q_im_t, Ts.q_s_set, Ts.q_s_new, Ts.q_s_unp, Ts.q_s_app, Ts.q_s_seti, Ts.q_s_ret, Ts.q_s_retn, Ts.q_s_ife, Ts.q_s_ex, Ts.q_s_pas, Ts.q_s_brk, Ts.q_s_cnt, Ts.q_s_rse, Ts.q_s_tri, Ts.q_ss_n, Ts.q_ss_c, Ts.q_tg_x, Ts.q_tg_xs, Ts.q_st_n, Ts.q_st_c, Ts.q_b_add_i, Ts.q_b_add_s, Ts.q_b_add_l, Ts.q_b_add_t, Ts.q_b_sub_i, Ts.q_b_mul_i, Ts.q_b_mul_s, Ts.q_b_fdiv_i, Ts.q_b_mod_i, Ts.q_b_pow_i, Ts.q_c_eq_a, Ts.q_c_ne_a, Ts.q_c_lt_i, Ts.q_c_le_i, Ts.q_c_gt_i, Ts.q_c_ge_i, Ts.q_c_is_b, Ts.q_c_isn_b, Ts.q_c_in__s, Ts.q_c_nin_s, Ts.q_c_in__t_int, Ts.q_c_nin_t_int, Ts.q_c_in__t_str, Ts.q_c_nin_t_str, Ts.q_c_in__t_bl, Ts.q_c_nin_t_bl, Ts.q_c_is_n, Ts.q_c_isn_n, Ts.q_c_in__l, Ts.q_c_nin_l, Ts.q_nn_non, Ts.q_nn_bl, Ts.q_nn_int, Ts.q_nn_str, Ts.q_nn_tup, Ts.q_nn_lst, Ts.q_nn_dct, Ts.q_i_s, Ts.q_i_l, Ts.q_i_t, Ts.q_sl_s, Ts.q_sl_l, Ts.q_sl_t, Ts.q_f_len_s, Ts.q_f_len_l, Ts.q_f_len_t, Ts.q_f_abs, Ts.q_f_int_i, Ts.q_f_int_b, Ts.q_f_str, Ts.q_f_list_l, Ts.q_f_list_t, Ts.q_f_tup_l, Ts.q_f_tup_t, Ts.q_f_sum, Ts.q_f_all, Ts.q_f_any, Ts.q_f_max2, Ts.q_f_min2, Ts.q_f_maxl, Ts.q_f_minl, Ts.q_f_isi, Ts.q_m_join, Ts.q_m_upper, Ts.q_m_lower, Ts.q_m_islower, Ts.q_m_isupper, Ts.q_m_isdigit, Ts.q_m_isalnum, Ts.q_m_split, Ts.q_isstr, Ts.q_ni_non, Ts.q_is_str_non, Ts.q_is_tuple_non, Ts.q_is_int_non, Ts.q_is_bool_non, Ts.q_is_list_non, Ts.q_ni_bl, Ts.q_is_str_bl, Ts.q_is_tuple_bl, Ts.q_is_int_bl, Ts.q_is_bool_bl, Ts.q_is_list_bl, Ts.q_ni_int, Ts.q_is_str_int, Ts.q_is_tuple_int, Ts.q_is_int_int, Ts.q_is_bool_int, Ts.q_is_list_int, Ts.q_ni_str, Ts.q_is_str_str, Ts.q_is_tuple_str, Ts.q_is_int_str, Ts.q_is_bool_str, Ts.q_is_list_str, Ts.q_ni_tup, Ts.q_is_str_tup, Ts.q_is_tuple_tup, Ts.q_is_int_tup, Ts.q_is_bool_tup, Ts.q_is_list_tup, Ts.q_ni_lst, Ts.q_is_str_lst, Ts.q_is_tuple_lst, Ts.q_is_int_lst, Ts.q_is_bool_lst, Ts.q_is_list_lst, Ts.q_ni_dct, Ts.q_is_str_dct, Ts.q_is_tuple_dct, Ts.q_is_int_dct, Ts.q_is_bool_dct, Ts.q_is_list_dct, Ts.q_s_for, Ts.q_s_whl, Ts.q_e_lc, Option.some.injEq, exists_eq_left', exists_eq_left, D.bl.injEq, D.int.injEq, D.str.injEq, D.lst.injEq, D.tup.injEq, Ts.Sl.lst.injEq, List.map_cons, List.map_nil, List.length_cons, List.length_nil, List.getElem?_cons_zero, List.getElem?_cons_succ, List.set_cons_zero, List.set_cons_succ, and_true, true_and, exists_and_left, if_true, if_false, Bool.false_eq_true, reduceIte, reduceCtorEq, Bool.not_true, Bool.not_false]
  refine ⟨hn, ?_⟩
  cases g <;> first | (simp only [isiD, Ts.q_o_v, Ts.q_o_k, Ts.q_o_g, Ts.q_o_bin, Ts.q_o_neg, Ts.q_o_cmp, Ts.q_o_cmp2, Ts.q_o_and, Ts.q_o_or, Ts.q_o_not, Ts.q_o_ite, Ts.q_o_tup, Ts.q_o_lst, Ts.q_o_ix, Ts.q_o_sl, Ts.q_o_call, Ts.q_o_bi, Ts.q_o_mt, Ts.q_o_lc, Ts.q_o_lrng, Ts.q_o_dic, Ts.q_o_dce, Ts.q_o_ise, Ts.q_o_o, Ts.q_od_v, Ts.q_od_o, Ts.q_ods_n, Ts.q_ods_c, Ts.q_sv_v, Ts.q_sv_l, Ts.q_own_l, Ts.q_isl_l, Ts.q_vs_v, Ts.q_vs_l, Ts.q_e_v, Ts.q_e_k, Ts.q_e_g, Ts.q_e_bin, Ts.q_e_neg, Ts.q_e_cmp, Ts.q_e_cmp2, Ts.q_e_and, Ts.q_e_or, Ts.q_e_not, Ts.q_e_ite, Ts.q_e_tup, Ts.q_e_lst, Ts.q_e_ix, Ts.q_e_sl, Ts.q_e_call, Ts.q_e_bi, Ts.q_e_mt, Ts.q_e_dic, Ts.q_e_dce, Ts.q_e_lrng, Ts.q_e_ise, Ts.q_es_n, Ts.q_es_c, Ts.q_os_n, Ts.q_os_c, Ts.q_oe_n, Ts.q_oe_s, Ts.q_if_n, Ts.q_if_s, Ts.q_it_of, Ts.q_it_r1, Ts.q_it_r2, Ts.q_it_en, Ts.q_it_z2, Ts.q_it_z3, Ts.q_nt_l, Ts.q_nt_s, Ts.q_im_s, Ts.q_im_l, Ts.q_im_t, Ts.q_s_set, Ts.q_s_new, Ts.q_s_unp, Ts.q_s_app, Ts.q_s_seti, Ts.q_s_ret, Ts.q_s_retn, Ts.q_s_ife, Ts.q_s_ex, Ts.q_s_pas, Ts.q_s_brk, Ts.q_s_cnt, Ts.q_s_rse, Ts.q_s_tri, Ts.q_ss_n, Ts.q_ss_c, Ts.q_tg_x, Ts.q_tg_xs, Ts.q_st_n, Ts.q_st_c, Ts.q_b_add_i, Ts.q_b_add_s, Ts.q_b_add_l, Ts.q_b_add_t, Ts.q_b_sub_i, Ts.q_b_mul_i, Ts.q_b_mul_s, Ts.q_b_fdiv_i, Ts.q_b_mod_i, Ts.q_b_pow_i, Ts.q_c_eq_a, Ts.q_c_ne_a, Ts.q_c_lt_i, Ts.q_c_le_i, Ts.q_c_gt_i, Ts.q_c_ge_i, Ts.q_c_is_b, Ts.q_c_isn_b, Ts.q_c_in__s, Ts.q_c_nin_s, Ts.q_c_in__t_int, Ts.q_c_nin_t_int, Ts.q_c_in__t_str, Ts.q_c_nin_t_str, Ts.q_c_in__t_bl, Ts.q_c_nin_t_bl, Ts.q_c_is_n, Ts.q_c_isn_n, Ts.q_c_in__l, Ts.q_c_nin_l, Ts.q_nn_non, Ts.q_nn_bl, Ts.q_nn_int, Ts.q_nn_str, Ts.q_nn_tup, Ts.q_nn_lst, Ts.q_nn_dct, Ts.q_i_s, Ts.q_i_l, Ts.q_i_t, Ts.q_sl_s, Ts.q_sl_l, Ts.q_sl_t, Ts.q_f_len_s, Ts.q_f_len_l, Ts.q_f_len_t, Ts.q_f_abs, Ts.q_f_int_i, Ts.q_f_int_b, Ts.q_f_str, Ts.q_f_list_l, Ts.q_f_list_t, Ts.q_f_tup_l, Ts.q_f_tup_t, Ts.q_f_sum, Ts.q_f_all, Ts.q_f_any, Ts.q_f_max2, Ts.q_f_min2, Ts.q_f_maxl, Ts.q_f_minl, Ts.q_f_isi, Ts.q_m_join, Ts.q_m_upper, Ts.q_m_lower, Ts.q_m_islower, Ts.q_m_isupper, Ts.q_m_isdigit, Ts.q_m_isalnum, Ts.q_m_split, Ts.q_isstr, Ts.q_ni_non, Ts.q_is_str_non, Ts.q_is_tuple_non, Ts.q_is_int_non, Ts.q_is_bool_non, Ts.q_is_list_non, Ts.q_ni_bl, Ts.q_is_str_bl, Ts.q_is_tuple_bl, Ts.q_is_int_bl, Ts.q_is_bool_bl, Ts.q_is_list_bl, Ts.q_ni_int, Ts.q_is_str_int, Ts.q_is_tuple_int, Ts.q_is_int_int, Ts.q_is_bool_int, Ts.q_is_list_int, Ts.q_ni_str, Ts.q_is_str_str, Ts.q_is_tuple_str, Ts.q_is_int_str, Ts.q_is_bool_str, Ts.q_is_list_str, Ts.q_ni_tup, Ts.q_is_str_tup, Ts.q_is_tuple_tup, Ts.q_is_int_tup, Ts.q_is_bool_tup, Ts.q_is_list_tup, Ts.q_ni_lst, Ts.q_is_str_lst, Ts.q_is_tuple_lst, Ts.q_is_int_lst, Ts.q_is_bool_lst, Ts.q_is_list_lst, Ts.q_ni_dct, Ts.q_is_str_dct, Ts.q_is_tuple_dct, Ts.q_is_int_dct, Ts.q_is_bool_dct, Ts.q_is_list_dct, Ts.q_s_for, Ts.q_s_whl, Ts.q_e_lc, Option.some.injEq, exists_eq_left', exists_eq_left, D.bl.injEq, D.int.injEq, D.str.injEq, D.lst.injEq, D.tup.injEq, Ts.Sl.lst.injEq, List.map_cons, List.map_nil, List.length_cons, List.length_nil, List.getElem?_cons_zero, List.getElem?_cons_succ, List.set_cons_zero, List.set_cons_succ, and_true, true_and, exists_and_left, if_true, if_false, Bool.false_eq_true, reduceIte, reduceCtorEq, Bool.not_true, Bool.not_false]; done) | skip
  all_goals first | (refine ⟨hn, ?_⟩; rfl) | rfl | skip
end Lb
set_option Elab.async false
set_option linter.all false
set_option maxRecDepth 100000
set_option maxHeartbeats 1000000
/-! Lb: pieces, rows, their answers. -/
namespace Lb
open PySem Ts
-- changed: N 0=deed 1=signs; fn ; cn 
def b_changed_2 : Ss := .cons (.ret (.v 1)) .nil
def b_changed_1 : Ss := .cons (.ife (.cmp .eq (.v 0) (.k (.str [115, 105, 110, 107]))) (.cons (.ret (.mt .lower (.v 1) .nil))
  .nil) .nil) b_changed_2
def b_changed : Ss := .cons (.ife (.cmp .eq (.v 0) (.k (.str [114, 97, 105, 115, 101]))) (.cons (.ret (.mt .upper (.v 1) .nil))
  .nil) .nil) b_changed_1
-- answer_of: N 0=piece 1=text 2=start 3=end; fn 0=changed 1=spot; cn 
def b_answer_of_4 : Ss := .cons (.ret (.call 0 (.cons (.ix (.v 0) (.k (.int 0))) (.cons (.sl (.v 1) (.some (.v 2)) (.some (.v 3))) .nil)))) .nil
def b_answer_of_3 : Ss := .cons (.ife (.or (.cmp .is (.v 2) (.k .non)) (.or (.cmp .is (.v 3) (.k .non)) (.cmp .ge (.v 2) (.v 3)))) (.cons (.ret (.k .non))
  .nil) .nil) b_answer_of_4
def b_answer_of_2 : Ss := .cons (.set 3 (.call 1 (.cons (.ix (.v 0) (.k (.int 2))) (.cons (.v 1) .nil)))) b_answer_of_3
def b_answer_of_1 : Ss := .cons (.set 2 (.call 1 (.cons (.ix (.v 0) (.k (.int 1))) (.cons (.v 1) .nil)))) b_answer_of_2
def b_answer_of : Ss := .cons (.ife (.cmp .eq (.ix (.v 0) (.k (.int 0))) (.k (.str [119, 111, 114, 100]))) (.cons (.ret (.ix (.v 0) (.k (.int 1))))
  .nil) .nil) b_answer_of_1
-- row_answer: N 0=row 1=text 2=answer 3=piece 4=more; fn 0=answer_of; cn 
def b_row_answer_2 : Ss := .cons (.ret (.v 2)) .nil
def b_row_answer_L1_2 : Ss := .cons (.set 2 (.bin .add (.v 2) (.v 4))) .nil
def b_row_answer_L1_1 : Ss := .cons (.ife (.cmp .is (.v 4) (.k .non)) (.cons (.ret (.k .non))
  .nil) .nil) b_row_answer_L1_2
def b_row_answer_L1 : Ss := .cons (.set 4 (.call 0 (.cons (.v 3) (.cons (.v 1) .nil)))) b_row_answer_L1_1
def b_row_answer_1 : Ss := .cons (.for_ (.x 3) (.of (.v 0)) b_row_answer_L1) b_row_answer_2
def b_row_answer : Ss := .cons (.set 2 (.k (.str []))) b_row_answer_1
-- _law_text__2: N 0=_law_cell_here 1=_law_most 2=_law_some 3=_law_size 4=_law_text_here 5=_law_k 6=_law_signs; fn ; cn 
def b__law_text__2_5 : Ss := .cons (.ret (.v 4)) .nil
def b__law_text__2_L1_2 : Ss := .cons (.set 4 (.bin .add (.v 4) (.ix (.v 6) (.bin .mod (.bin .fdiv (.v 0) (.k (.int 64))) (.bi .len (.cons (.v 6) .nil)))))) .nil
def b__law_text__2_L1_1 : Ss := .cons (.set 6 (.ix (.v 2) (.bin .mod (.bin .fdiv (.v 0) (.k (.int 16))) (.k (.int 4))))) b__law_text__2_L1_2
def b__law_text__2_L1 : Ss := .cons (.set 0 (.bin .mod (.bin .add (.bin .add (.bin .mul (.v 0) (.k (.int 48271))) (.bin .mul (.k (.int 11)) (.v 5))) (.k (.int 7))) (.k (.int 2147483647)))) b__law_text__2_L1_1
def b__law_text__2_4 : Ss := .cons (.for_ (.x 5) (.rng1 (.v 3)) b__law_text__2_L1) b__law_text__2_5
def b__law_text__2_3 : Ss := .cons (.set 4 (.k (.str []))) b__law_text__2_4
def b__law_text__2_2 : Ss := .cons (.set 0 (.bin .mod (.bin .fdiv (.v 0) (.k (.int 25))) (.k (.int 2147483647)))) b__law_text__2_3
def b__law_text__2_1 : Ss := .cons (.set 3 (.bin .mod (.v 0) (.bin .add (.v 1) (.k (.int 1))))) b__law_text__2_2
def b__law_text__2 : Ss := .cons (.set 2 (.lst (.cons (.k (.str [97, 98, 99, 100, 101, 102, 103, 104, 105, 106, 107, 108, 109, 110, 111, 112, 113, 114, 115, 116, 117, 118, 119, 120, 121, 122])) (.cons (.k (.str [65, 66, 67, 68, 69, 70, 71, 72, 73, 74, 75, 76, 77, 78, 79, 80, 81, 82, 83, 84, 85, 86, 87, 88, 89, 90])) (.cons (.k (.str [48, 49, 50, 51, 52, 53, 54, 55, 56, 57])) (.cons (.k (.str [32, 45, 46, 44, 47])) .nil)))))) b__law_text__2_1
-- _law_word: N 0=_law_cell_here 1=_law_most 2=_law_some 3=_law_word_here; fn 0=_law_text; cn 
def b__law_word_4 : Ss := .cons (.ret (.v 3)) .nil
def b__law_word_3 : Ss := .cons (.ife (.cmp .eq (.v 3) (.k (.str []))) (.cons (.ret (.ix (.lst (.cons (.k (.str [97])) (.cons (.k (.str [90])) (.cons (.k (.str [52])) (.cons (.k (.str [44])) (.cons (.k (.str [32])) .nil)))))) (.bin .mod (.bin .fdiv (.v 0) (.k (.int 75))) (.k (.int 5)))))
  .nil) .nil) b__law_word_4
def b__law_word_2 : Ss := .cons (.set 3 (.call 0 (.cons (.bin .fdiv (.v 0) (.k (.int 3))) (.cons (.v 1) .nil)))) b__law_word_3
def b__law_word_1 : Ss := .cons (.ife (.cmp .eq (.bin .mod (.v 0) (.k (.int 3))) (.k (.int 0))) (.cons (.ret (.sl (.ix (.v 2) (.bin .mod (.bin .fdiv (.v 0) (.k (.int 3))) (.k (.int 12)))) .none (.some (.v 1))))
  .nil) .nil) b__law_word_2
def b__law_word : Ss := .cons (.set 2 (.lst (.cons (.k (.str [101, 108, 115, 101])) (.cons (.k (.str [100, 111])) (.cons (.k (.str [119, 111, 114, 100])) (.cons (.k (.str [105, 102])) (.cons (.k (.str [99, 111, 112, 121])) (.cons (.k (.str [104, 97, 115])) (.cons (.k (.str [97, 110, 121, 32, 49])) (.cons (.k (.str [32])) (.cons (.k (.str [97, 32])) (.cons (.k (.str [32, 55])) (.cons (.k (.str [115, 105, 110, 107])) (.cons (.k (.str [97, 104, 101, 97, 100])) .nil)))))))))))))) b__law_word_1
-- _law_piece: N 0=_law_cell_here 1=_law_most 2=_law_deed; fn 0=_law_place 1=_law_word; cn 
def b__law_piece_2 : Ss := .cons (.ret (.tup (.cons (.v 2) (.cons (.call 0 (.cons (.bin .fdiv (.v 0) (.k (.int 16))) .nil)) (.cons (.call 0 (.cons (.bin .fdiv (.v 0) (.k (.int 640))) .nil)) .nil))))) .nil
def b__law_piece_1 : Ss := .cons (.set 2 (.ix (.lst (.cons (.k (.str [99, 111, 112, 121])) (.cons (.k (.str [99, 111, 112, 121])) (.cons (.k (.str [114, 97, 105, 115, 101])) (.cons (.k (.str [115, 105, 110, 107])) .nil))))) (.bin .mod (.bin .fdiv (.v 0) (.k (.int 4))) (.k (.int 4))))) b__law_piece_2
def b__law_piece : Ss := .cons (.ife (.cmp .eq (.bin .mod (.v 0) (.k (.int 4))) (.k (.int 0))) (.cons (.ret (.tup (.cons (.k (.str [119, 111, 114, 100])) (.cons (.call 1 (.cons (.bin .fdiv (.v 0) (.k (.int 4))) (.cons (.v 1) .nil))) .nil))))
  .nil) .nil) b__law_piece_1
-- _law_piece_answer: N 0=_law_piece_here 1=_law_text_here 2=_law_start 3=_law_end; fn 0=_law_spot; cn 
def b__law_piece_answer_6 : Ss := .cons (.ret (.sl (.v 1) (.some (.v 2)) (.some (.v 3)))) .nil
def b__law_piece_answer_5 : Ss := .cons (.ife (.cmp .eq (.ix (.v 0) (.k (.int 0))) (.k (.str [115, 105, 110, 107]))) (.cons (.ret (.mt .lower (.sl (.v 1) (.some (.v 2)) (.some (.v 3))) .nil))
  .nil) .nil) b__law_piece_answer_6
def b__law_piece_answer_4 : Ss := .cons (.ife (.cmp .eq (.ix (.v 0) (.k (.int 0))) (.k (.str [114, 97, 105, 115, 101]))) (.cons (.ret (.mt .upper (.sl (.v 1) (.some (.v 2)) (.some (.v 3))) .nil))
  .nil) .nil) b__law_piece_answer_5
def b__law_piece_answer_3 : Ss := .cons (.ife (.or (.cmp .is (.v 2) (.k .non)) (.or (.cmp .is (.v 3) (.k .non)) (.cmp .ge (.v 2) (.v 3)))) (.cons (.ret (.k .non))
  .nil) .nil) b__law_piece_answer_4
def b__law_piece_answer_2 : Ss := .cons (.set 3 (.call 0 (.cons (.ix (.v 0) (.k (.int 2))) (.cons (.v 1) .nil)))) b__law_piece_answer_3
def b__law_piece_answer_1 : Ss := .cons (.set 2 (.call 0 (.cons (.ix (.v 0) (.k (.int 1))) (.cons (.v 1) .nil)))) b__law_piece_answer_2
def b__law_piece_answer : Ss := .cons (.ife (.cmp .eq (.ix (.v 0) (.k (.int 0))) (.k (.str [119, 111, 114, 100]))) (.cons (.ret (.ix (.v 0) (.k (.int 1))))
  .nil) .nil) b__law_piece_answer_1
-- _law_row_answer: N 0=_law_row 1=_law_text_here 2=_law_found 3=_law_piece_here; fn 0=_law_piece_answer; cn 
def b__law_row_answer_2 : Ss := .cons (.ret (.mt .join (.k (.str [])) (.cons (.v 2) .nil))) .nil
def b__law_row_answer_1 : Ss := .cons (.ife (.cmp .in_ (.k .non) (.v 2)) (.cons (.ret (.k .non))
  .nil) .nil) b__law_row_answer_2
def b__law_row_answer : Ss := .cons (.set 2 (.lc [3] (.of (.v 0)) (.x 3) .none (.call 0 (.cons (.v 3) (.cons (.v 1) .nil))))) b__law_row_answer_1
-- _law_alike__2: N 0=_law_found 1=_law_due; fn ; cn 
def b__law_alike__2_1 : Ss := .cons (.ret (.and (.bi (.isi .str) (.cons (.v 0) .nil)) (.cmp .eq (.v 0) (.v 1)))) .nil
def b__law_alike__2 : Ss := .cons (.ife (.cmp .is (.v 1) (.k .non)) (.cons (.ret (.cmp .is (.v 0) (.k .non)))
  .nil) .nil) b__law_alike__2_1
-- law__2: N 0=_law_script 1=_law_text_here 2=_law_pieces 3=_law_k 4=_law_row; fn 0=answer_of 1=_law_alike 2=_law_row_answer 3=row_answer 4=_law_cell 5=_law_piece_answer 6=_law_piece 7=_law_text; cn 
def b_law__2_3 : Ss := .cons (.ret (.or (.cmp .is (.call 0 (.cons (.ix (.o 2) (.k (.int 0))) (.cons (.k (.str [])) .nil))) (.k .non)) (.cmp .eq (.ix (.ix (.o 2) (.k (.int 0))) (.k (.int 0))) (.k (.str [119, 111, 114, 100]))))) .nil
def b_law__2_L1_3 : Ss := .cons (.ife (.not (.call 1 (.cons (.call 3 (.cons (.v 4) (.cons (.v 1) .nil))) (.cons (.call 2 (.cons (.v 4) (.cons (.v 1) .nil))) .nil)))) (.cons (.ret (.k (.bl false)))
  .nil) .nil) .nil
def b_law__2_L1_2 : Ss := .cons (.set 4 (.bi .tuple (.cons (.sl (.o 2) (.some (.bin .sub (.neg (.k (.int 1))) (.bin .mod (.call 4 (.cons (.v 0) (.cons (.bin .add (.v 3) (.k (.int 1))) .nil))) (.k (.int 3))))) .none) .nil))) b_law__2_L1_3
def b_law__2_L1_1 : Ss := .cons (.ife (.not (.call 1 (.cons (.call 0 (.cons (.ix (.o 2) (.neg (.k (.int 1)))) (.cons (.v 1) .nil))) (.cons (.call 5 (.cons (.ix (.o 2) (.neg (.k (.int 1)))) (.cons (.v 1) .nil))) .nil)))) (.cons (.ret (.k (.bl false)))
  .nil) .nil) b_law__2_L1_2
def b_law__2_L1 : Ss := .cons (.app 2 (.call 6 (.cons (.call 4 (.cons (.v 0) (.cons (.v 3) .nil))) (.cons (.k (.int 8)) .nil)))) b_law__2_L1_1
def b_law__2_2 : Ss := .cons (.for_ (.x 3) (.rng2 (.k (.int 2)) (.bi .max2 (.cons (.k (.int 3)) (.cons (.bi .min2 (.cons (.k (.int 42)) (.cons (.bi .len (.cons (.v 0) .nil)) .nil))) .nil)))) b_law__2_L1) b_law__2_3
def b_law__2_1 : Ss := .cons (.new 2 (.lst .nil)) b_law__2_2
def b_law__2 : Ss := .cons (.set 1 (.call 7 (.cons (.call 4 (.cons (.v 0) (.cons (.k (.int 0)) .nil))) (.cons (.k (.int 24)) .nil)))) b_law__2_1

def WORD : List Nat := [119, 111, 114, 100]
def COPY : List Nat := [99, 111, 112, 121]
def RAISE : List Nat := [114, 97, 105, 115, 101]
def SINK : List Nat := [115, 105, 110, 107]
def DEEDS : List (List Nat) := [COPY, RAISE, SINK]
inductive Pc where
  | word (w : List Nat) | st (deed : List Nat) (a b : Plc)
  deriving DecidableEq
def Wd (w : List Nat) : Prop := Tx w ∧ 1 ≤ w.length ∧ w.length ≤ 8
def Pc.ok : Pc → Prop
  | .word w => Wd w
  | .st d a b => d ∈ DEEDS ∧ a.ok ∧ b.ok
def dPc : Pc → D
  | .word w => .tup [.str WORD, .str w]
  | .st d a b => .tup [.str d, dPl a, dPl b]
def dT : Option (List Nat) → D
  | none => .non
  | some s => .str s
abbrev up1 := PyProof.Rows.up1
abbrev lo1 := PyProof.Rows.lo1
def chg (d s : List Nat) : List Nat := if d = RAISE then s.map up1 else if d = SINK then s.map lo1 else s
def ansSt (d : List Nat) (a b : Plc) (t : List Nat) : Option (List Nat) := match spotT a t, spotT b t with
  | some i, some j => if i < j then some (chg d ((t.drop i).take (j - i))) else none
  | _, _ => none
def ans : Pc → List Nat → Option (List Nat)
  | .word w, _ => some w
  | .st d a b, t => ansSt d a b t
def rowAns : List Pc → List Nat → Option (List Nat)
  | [], _ => some []
  | p :: r, t => match ans p t with
    | none => none
    | some s => (rowAns r t).map (s ++ ·)
theorem deed_ok : ∀ d ∈ DEEDS, okN 40 (.str d) = true ∧ d ≠ WORD := by decide +kernel
theorem up_sg : ∀ c ∈ SIGNS, up1 c ∈ SIGNS ∧ lo1 c ∈ SIGNS := by decide +kernel
theorem Tx.map_up {s : List Nat} (h : Tx s) : Tx (s.map up1) := fun c hc => by
  obtain ⟨x, hx, rfl⟩ := List.mem_map.mp hc
  exact (up_sg x (h x hx)).1
theorem Tx.map_lo {s : List Nat} (h : Tx s) : Tx (s.map lo1) := fun c hc => by
  obtain ⟨x, hx, rfl⟩ := List.mem_map.mp hc
  exact (up_sg x (h x hx)).2
theorem Tx.drop {t : List Nat} (h : Tx t) (n : Nat) : Tx (t.drop n) := fun c hc => h c (List.mem_of_mem_drop hc)
theorem Tx.take {t : List Nat} (h : Tx t) (n : Nat) : Tx (t.take n) := fun c hc => h c (List.mem_of_mem_take hc)
theorem Tx.nil : Tx [] := fun c hc => by cases hc
theorem Tx.app {a b : List Nat} (h : Tx a) (h' : Tx b) : Tx (a ++ b) := fun c hc => (List.mem_append.mp hc).elim (h c) (h' c)
theorem Tx.all128 {s : List Nat} (h : Tx s) : s.all (· < 128) = true := List.all_eq_true.mpr fun c hc => decide_eq_true (h.lt c hc)
theorem chg_tx {d s : List Nat} (h : Tx s) : Tx (chg d s) := by
  unfold chg
  split
  · exact h.map_up
  · split
    · exact h.map_lo
    · exact h
theorem chg_len (d s : List Nat) : (chg d s).length = s.length := by
  unfold chg
  split
  · simp
  · split <;> simp
theorem ans_tx {p : Pc} {t s : List Nat} (hp : p.ok) (ht : Tx t) (h : ans p t = some s) : Tx s := by
  cases p with
  | word w => cases h; exact hp.1
  | st d a b =>
    have h : ansSt d a b t = some s := h
    unfold ansSt at h
    split at h
    · split at h
      · cases h; exact chg_tx ((ht.drop _).take _)
      · cases h
    · cases h
theorem ans_len {p : Pc} {t s : List Nat} (hp : p.ok) (h : ans p t = some s) : s.length ≤ max 8 t.length := by
  cases p with
  | word w => cases h; have := hp.2.2; omega
  | st d a b =>
    have h : ansSt d a b t = some s := h
    unfold ansSt at h
    split at h
    · split at h
      · cases h
        rw [chg_len, List.length_take, List.length_drop]
        omega
      · cases h
    · cases h
theorem low_eq {s : List Nat} (h : Tx s) : (Txt.lower (St s)).cps.toList = s.map lo1 := by
  rw [PyProof.Rows.lower_ascii (x := St s) (fun c hc => h.lt c (by rw [St_cps] at hc; exact hc))]
  simp [St]
theorem rn_lit {m k : Int} (h : (decide (0 ≤ k) && decide (k < m)) = true) : Rn m k := by
  rw [Bool.and_eq_true, decide_eq_true_eq, decide_eq_true_eq] at h
  exact h
theorem le100 {t : List Nat} (h : t.length ≤ 24) : t.length ≤ 100 := Nat.le_trans h (by decide)
theorem le_of {t : List Nat} {a b : Nat} (h : t.length ≤ a) (h' : a ≤ b) : t.length ≤ b := Nat.le_trans h h'
/-! ### changed -/
def sp_changed : PSpec := { ar := 2, G := List Nat × List Nat, pre := fun g ds => ds = [.str g.1, .str g.2] ∧ g.1 ∈ DEEDS ∧ Tx g.2 ∧ g.2.length ≤ 100, ret := fun g r => r = .str (chg g.1 g.2) }
theorem r_changed {g d} : sp_changed.ret g d = (d = .str (chg g.1 g.2)) := rfl
theorem x_changed {g c} : sp_changed.exc g c = False := rfl
def m_changed : Sm := { fn := [], cn := [] }
theorem w_changed (g : List Nat × List Nat) (ds : List D) (hl : ds.length = 2) (hp : sp_changed.pre g ds) : wpSs m_changed b_changed (rho0 2 ds) (pt sp_changed g) := by
  obtain ⟨d, s⟩ := g
  obtain ⟨rfl, hd, hs, hn⟩ := hp
  have hd : d ∈ DEEDS := hd
  have hs : Tx s := hs
  have hn : s.length ≤ 100 := hn
  have e : ∀ r ρ, r = .str (chg d s) → (pt sp_changed (d, s)).rt r ρ := fun r ρ h => h
  rw [show rho0 2 [D.str d, D.str s] = [.val (.str d), .val (.str s)] from rfl]
  generalize pt sp_changed (d, s) = P at e ⊢
  unfold chg at e
  simp only [b_changed, b_changed_1, b_changed_2, m_changed, eq_str, Ts.q_o_v, Ts.q_o_k, Ts.q_o_g, Ts.q_o_bin, Ts.q_o_neg, Ts.q_o_cmp, Ts.q_o_cmp2, Ts.q_o_and, Ts.q_o_or, Ts.q_o_not, Ts.q_o_ite, Ts.q_o_tup, Ts.q_o_lst, Ts.q_o_ix, Ts.q_o_sl, Ts.q_o_call, Ts.q_o_bi, Ts.q_o_mt, Ts.q_o_lc, Ts.q_o_lrng, Ts.q_o_dic, Ts.q_o_dce, Ts.q_o_ise, Ts.q_o_o, Ts.q_od_v, Ts.q_od_o, Ts.q_ods_n, Ts.q_ods_c, Ts.q_sv_v, Ts.q_sv_l, Ts.q_own_l, Ts.q_isl_l, Ts.q_vs_v, Ts.q_vs_l, Ts.q_e_v, Ts.q_e_k, Ts.q_e_g, Ts.q_e_bin, Ts.q_e_neg, Ts.q_e_cmp, Ts.q_e_cmp2, Ts.q_e_and, Ts.q_e_or, Ts.q_e_not, Ts.q_e_ite, Ts.q_e_tup, Ts.q_e_lst, Ts.q_e_ix, Ts.q_e_sl, Ts.q_e_call, Ts.q_e_bi, Ts.q_e_mt, Ts.q_e_dic, Ts.q_e_dce, Ts.q_e_lrng, Ts.q_e_ise, Ts.q_es_n, Ts.q_es_c, Ts.q_os_n, Ts.q_os_c, Ts.q_oe_n, Ts.q_oe_s, Ts.q_if_n, Ts.q_if_s, Ts.q_it_of, Ts.q_it_r1, Ts.q_it_r2, Ts.q_it_en, Ts.q_it_z2, Ts.q_it_z3, Ts.q_nt_l, Ts.q_nt_s, Ts.q_im_s, Ts.q_im_l, Ts.q_im_t, Ts.q_s_set, Ts.q_s_new, Ts.q_s_unp, Ts.q_s_app, Ts.q_s_seti, Ts.q_s_ret, Ts.q_s_retn, Ts.q_s_ife, Ts.q_s_ex, Ts.q_s_pas, Ts.q_s_brk, Ts.q_s_cnt, Ts.q_s_rse, Ts.q_s_tri, Ts.q_ss_n, Ts.q_ss_c, Ts.q_tg_x, Ts.q_tg_xs, Ts.q_st_n, Ts.q_st_c, Ts.q_b_add_i, Ts.q_b_add_s, Ts.q_b_add_l, Ts.q_b_add_t, Ts.q_b_sub_i, Ts.q_b_mul_i, Ts.q_b_mul_s, Ts.q_b_fdiv_i, Ts.q_b_mod_i, Ts.q_b_pow_i, Ts.q_c_eq_a, Ts.q_c_ne_a, Ts.q_c_lt_i, Ts.q_c_le_i, Ts.q_c_gt_i, Ts.q_c_ge_i, Ts.q_c_is_b, Ts.q_c_isn_b, Ts.q_c_in__s, Ts.q_c_nin_s, Ts.q_c_in__t_int, Ts.q_c_nin_t_int, Ts.q_c_in__t_str, Ts.q_c_nin_t_str, Ts.q_c_in__t_bl, Ts.q_c_nin_t_bl, Ts.q_c_is_n, Ts.q_c_isn_n, Ts.q_c_in__l, Ts.q_c_nin_l, Ts.q_nn_non, Ts.q_nn_bl, Ts.q_nn_int, Ts.q_nn_str, Ts.q_nn_tup, Ts.q_nn_lst, Ts.q_nn_dct, Ts.q_i_s, Ts.q_i_l, Ts.q_i_t, Ts.q_sl_s, Ts.q_sl_l, Ts.q_sl_t, Ts.q_f_len_s, Ts.q_f_len_l, Ts.q_f_len_t, Ts.q_f_abs, Ts.q_f_int_i, Ts.q_f_int_b, Ts.q_f_str, Ts.q_f_list_l, Ts.q_f_list_t, Ts.q_f_tup_l, Ts.q_f_tup_t, Ts.q_f_sum, Ts.q_f_all, Ts.q_f_any, Ts.q_f_max2, Ts.q_f_min2, Ts.q_f_maxl, Ts.q_f_minl, Ts.q_f_isi, Ts.q_m_join, Ts.q_m_upper, Ts.q_m_lower, Ts.q_m_islower, Ts.q_m_isupper, Ts.q_m_isdigit, Ts.q_m_isalnum, Ts.q_m_split, Ts.q_isstr, Ts.q_ni_non, Ts.q_is_str_non, Ts.q_is_tuple_non, Ts.q_is_int_non, Ts.q_is_bool_non, Ts.q_is_list_non, Ts.q_ni_bl, Ts.q_is_str_bl, Ts.q_is_tuple_bl, Ts.q_is_int_bl, Ts.q_is_bool_bl, Ts.q_is_list_bl, Ts.q_ni_int, Ts.q_is_str_int, Ts.q_is_tuple_int, Ts.q_is_int_int, Ts.q_is_bool_int, Ts.q_is_list_int, Ts.q_ni_str, Ts.q_is_str_str, Ts.q_is_tuple_str, Ts.q_is_int_str, Ts.q_is_bool_str, Ts.q_is_list_str, Ts.q_ni_tup, Ts.q_is_str_tup, Ts.q_is_tuple_tup, Ts.q_is_int_tup, Ts.q_is_bool_tup, Ts.q_is_list_tup, Ts.q_ni_lst, Ts.q_is_str_lst, Ts.q_is_tuple_lst, Ts.q_is_int_lst, Ts.q_is_bool_lst, Ts.q_is_list_lst, Ts.q_ni_dct, Ts.q_is_str_dct, Ts.q_is_tuple_dct, Ts.q_is_int_dct, Ts.q_is_bool_dct, Ts.q_is_list_dct, Ts.q_s_for, Ts.q_s_whl, Ts.q_e_lc, Option.some.injEq, exists_eq_left', exists_eq_left, D.bl.injEq, D.int.injEq, D.str.injEq, D.lst.injEq, D.tup.injEq, Ts.Sl.lst.injEq, List.map_cons, List.map_nil, List.length_cons, List.length_nil, List.getElem?_cons_zero, List.getElem?_cons_succ, List.set_cons_zero, List.set_cons_succ, and_true, true_and, exists_and_left, if_true, if_false, Bool.false_eq_true, reduceIte, reduceCtorEq, Bool.not_true, Bool.not_false]
  refine ⟨(deed_ok d hd).1, by decide, ?_⟩
  by_cases h : d = RAISE
  · rw [if_pos (by rw [h]; rfl)]
    rw [if_pos h] at e
    exact ⟨by omega, hs.all128, e _ _ rfl⟩
  · rw [if_neg (by simp only [beq_iff_eq]; exact h)]
    rw [if_neg h] at e
    refine ⟨(deed_ok d hd).1, by decide, ?_⟩
    by_cases h2 : d = SINK
    · rw [if_pos (by rw [h2]; rfl)]
      rw [if_pos h2] at e
      exact ⟨by omega, e _ _ (by rw [low_eq hs])⟩
    · rw [if_neg (by simp only [beq_iff_eq]; exact h2)]
      rw [if_neg h2] at e
      exact e _ _ rfl
theorem cut_mid {α : Type} (xs : List α) (i j : Nat) (hj : j ≤ xs.length) (hi : i ≤ j) : cut xs (some (i : Int)) (some (j : Int)) = (xs.drop i).take (j - i) := by
  unfold cut
  rw [HT.sIx_nat, HT.sIx_nat, Nat.min_eq_left hj, Nat.min_eq_left (Nat.le_trans hi hj)]
theorem stands_lt {k t : List Nat} {v : Nat} (h : v ∈ stands k t) : v < t.length := by
  have := stF_lt k 0 t v h
  omega
theorem spot_le {p : Plc} {t : List Nat} {v : Nat} (h : spotT p t = some v) : v ≤ t.length := by
  unfold spotT spotBy at h
  split at h
  · cases h
  · rw [Option.map_eq_some_iff] at h
    obtain ⟨x, hx, h⟩ := h
    have hx' : x ∈ stands p.kind t := by
      split at hx
      · exact List.mem_of_getElem? hx
      · exact List.mem_of_getElem? hx
    have := stands_lt hx'
    split at h <;> omega
/-! ### answer_of -/
def sp_ans : PSpec := { ar := 2, G := Pc × List Nat, pre := fun g ds => ds = [dPc g.1, .str g.2] ∧ g.1.ok ∧ Tx g.2 ∧ g.2.length ≤ 100, ret := fun g r => r = dT (ans g.1 g.2) }
theorem r_ans {g d} : sp_ans.ret g d = (d = dT (ans g.1 g.2)) := rfl
theorem x_ans {g c} : sp_ans.exc g c = False := rfl
def m_ans : Sm := { fn := [sp_changed, sp_spot], cn := [] }
theorem w_ans (g : Pc × List Nat) (ds : List D) (hl : ds.length = 2) (hp : sp_ans.pre g ds) : wpSs m_ans b_answer_of (rho0 4 ds) (pt sp_ans g) := by
  obtain ⟨p, t⟩ := g
  obtain ⟨rfl, hp, ht, hn⟩ := hp
  have hp : p.ok := hp
  have ht : Tx t := ht
  have hn : t.length ≤ 100 := hn
  have e : ∀ r ρ, r = dT (ans p t) → (pt sp_ans (p, t)).rt r ρ := fun r ρ h => h
  rw [show rho0 4 [dPc p, D.str t] = [.val (dPc p), .val (.str t), .no, .no] from rfl]
  generalize pt sp_ans (p, t) = P at e ⊢
  cases p with
  | word w =>
    simp only [b_answer_of, m_ans, dPc, at0, at1, eq_str, Ts.q_o_v, Ts.q_o_k, Ts.q_o_g, Ts.q_o_bin, Ts.q_o_neg, Ts.q_o_cmp, Ts.q_o_cmp2, Ts.q_o_and, Ts.q_o_or, Ts.q_o_not, Ts.q_o_ite, Ts.q_o_tup, Ts.q_o_lst, Ts.q_o_ix, Ts.q_o_sl, Ts.q_o_call, Ts.q_o_bi, Ts.q_o_mt, Ts.q_o_lc, Ts.q_o_lrng, Ts.q_o_dic, Ts.q_o_dce, Ts.q_o_ise, Ts.q_o_o, Ts.q_od_v, Ts.q_od_o, Ts.q_ods_n, Ts.q_ods_c, Ts.q_sv_v, Ts.q_sv_l, Ts.q_own_l, Ts.q_isl_l, Ts.q_vs_v, Ts.q_vs_l, Ts.q_e_v, Ts.q_e_k, Ts.q_e_g, Ts.q_e_bin, Ts.q_e_neg, Ts.q_e_cmp, Ts.q_e_cmp2, Ts.q_e_and, Ts.q_e_or, Ts.q_e_not, Ts.q_e_ite, Ts.q_e_tup, Ts.q_e_lst, Ts.q_e_ix, Ts.q_e_sl, Ts.q_e_call, Ts.q_e_bi, Ts.q_e_mt, Ts.q_e_dic, Ts.q_e_dce, Ts.q_e_lrng, Ts.q_e_ise, Ts.q_es_n, Ts.q_es_c, Ts.q_os_n, Ts.q_os_c, Ts.q_oe_n, Ts.q_oe_s, Ts.q_if_n, Ts.q_if_s, Ts.q_it_of, Ts.q_it_r1, Ts.q_it_r2, Ts.q_it_en, Ts.q_it_z2, Ts.q_it_z3, Ts.q_nt_l, Ts.q_nt_s, Ts.q_im_s, Ts.q_im_l, Ts.q_im_t, Ts.q_s_set, Ts.q_s_new, Ts.q_s_unp, Ts.q_s_app, Ts.q_s_seti, Ts.q_s_ret, Ts.q_s_retn, Ts.q_s_ife, Ts.q_s_ex, Ts.q_s_pas, Ts.q_s_brk, Ts.q_s_cnt, Ts.q_s_rse, Ts.q_s_tri, Ts.q_ss_n, Ts.q_ss_c, Ts.q_tg_x, Ts.q_tg_xs, Ts.q_st_n, Ts.q_st_c, Ts.q_b_add_i, Ts.q_b_add_s, Ts.q_b_add_l, Ts.q_b_add_t, Ts.q_b_sub_i, Ts.q_b_mul_i, Ts.q_b_mul_s, Ts.q_b_fdiv_i, Ts.q_b_mod_i, Ts.q_b_pow_i, Ts.q_c_eq_a, Ts.q_c_ne_a, Ts.q_c_lt_i, Ts.q_c_le_i, Ts.q_c_gt_i, Ts.q_c_ge_i, Ts.q_c_is_b, Ts.q_c_isn_b, Ts.q_c_in__s, Ts.q_c_nin_s, Ts.q_c_in__t_int, Ts.q_c_nin_t_int, Ts.q_c_in__t_str, Ts.q_c_nin_t_str, Ts.q_c_in__t_bl, Ts.q_c_nin_t_bl, Ts.q_c_is_n, Ts.q_c_isn_n, Ts.q_c_in__l, Ts.q_c_nin_l, Ts.q_nn_non, Ts.q_nn_bl, Ts.q_nn_int, Ts.q_nn_str, Ts.q_nn_tup, Ts.q_nn_lst, Ts.q_nn_dct, Ts.q_i_s, Ts.q_i_l, Ts.q_i_t, Ts.q_sl_s, Ts.q_sl_l, Ts.q_sl_t, Ts.q_f_len_s, Ts.q_f_len_l, Ts.q_f_len_t, Ts.q_f_abs, Ts.q_f_int_i, Ts.q_f_int_b, Ts.q_f_str, Ts.q_f_list_l, Ts.q_f_list_t, Ts.q_f_tup_l, Ts.q_f_tup_t, Ts.q_f_sum, Ts.q_f_all, Ts.q_f_any, Ts.q_f_max2, Ts.q_f_min2, Ts.q_f_maxl, Ts.q_f_minl, Ts.q_f_isi, Ts.q_m_join, Ts.q_m_upper, Ts.q_m_lower, Ts.q_m_islower, Ts.q_m_isupper, Ts.q_m_isdigit, Ts.q_m_isalnum, Ts.q_m_split, Ts.q_isstr, Ts.q_ni_non, Ts.q_is_str_non, Ts.q_is_tuple_non, Ts.q_is_int_non, Ts.q_is_bool_non, Ts.q_is_list_non, Ts.q_ni_bl, Ts.q_is_str_bl, Ts.q_is_tuple_bl, Ts.q_is_int_bl, Ts.q_is_bool_bl, Ts.q_is_list_bl, Ts.q_ni_int, Ts.q_is_str_int, Ts.q_is_tuple_int, Ts.q_is_int_int, Ts.q_is_bool_int, Ts.q_is_list_int, Ts.q_ni_str, Ts.q_is_str_str, Ts.q_is_tuple_str, Ts.q_is_int_str, Ts.q_is_bool_str, Ts.q_is_list_str, Ts.q_ni_tup, Ts.q_is_str_tup, Ts.q_is_tuple_tup, Ts.q_is_int_tup, Ts.q_is_bool_tup, Ts.q_is_list_tup, Ts.q_ni_lst, Ts.q_is_str_lst, Ts.q_is_tuple_lst, Ts.q_is_int_lst, Ts.q_is_bool_lst, Ts.q_is_list_lst, Ts.q_ni_dct, Ts.q_is_str_dct, Ts.q_is_tuple_dct, Ts.q_is_int_dct, Ts.q_is_bool_dct, Ts.q_is_list_dct, Ts.q_s_for, Ts.q_s_whl, Ts.q_e_lc, Option.some.injEq, exists_eq_left', exists_eq_left, D.bl.injEq, D.int.injEq, D.str.injEq, D.lst.injEq, D.tup.injEq, Ts.Sl.lst.injEq, List.map_cons, List.map_nil, List.length_cons, List.length_nil, List.getElem?_cons_zero, List.getElem?_cons_succ, List.set_cons_zero, List.set_cons_succ, and_true, true_and, exists_and_left, if_true, if_false, Bool.false_eq_true, reduceIte, reduceCtorEq, Bool.not_true, Bool.not_false]
    refine ⟨by decide, by decide, ?_⟩
    rw [if_pos (by decide)]
    exact e _ _ rfl
  | st d a b =>
    obtain ⟨hd, ha, hb⟩ := hp
    have e : ∀ r ρ, r = dT (ansSt d a b t) → P.rt r ρ := e
    unfold ansSt at e
    simp only [b_answer_of, b_answer_of_1, b_answer_of_2, m_ans, dPc, at0, at1, at2, eq_str, x_spot, r_spot, forall_eq, false_implies, implies_true, Ts.q_o_v, Ts.q_o_k, Ts.q_o_g, Ts.q_o_bin, Ts.q_o_neg, Ts.q_o_cmp, Ts.q_o_cmp2, Ts.q_o_and, Ts.q_o_or, Ts.q_o_not, Ts.q_o_ite, Ts.q_o_tup, Ts.q_o_lst, Ts.q_o_ix, Ts.q_o_sl, Ts.q_o_call, Ts.q_o_bi, Ts.q_o_mt, Ts.q_o_lc, Ts.q_o_lrng, Ts.q_o_dic, Ts.q_o_dce, Ts.q_o_ise, Ts.q_o_o, Ts.q_od_v, Ts.q_od_o, Ts.q_ods_n, Ts.q_ods_c, Ts.q_sv_v, Ts.q_sv_l, Ts.q_own_l, Ts.q_isl_l, Ts.q_vs_v, Ts.q_vs_l, Ts.q_e_v, Ts.q_e_k, Ts.q_e_g, Ts.q_e_bin, Ts.q_e_neg, Ts.q_e_cmp, Ts.q_e_cmp2, Ts.q_e_and, Ts.q_e_or, Ts.q_e_not, Ts.q_e_ite, Ts.q_e_tup, Ts.q_e_lst, Ts.q_e_ix, Ts.q_e_sl, Ts.q_e_call, Ts.q_e_bi, Ts.q_e_mt, Ts.q_e_dic, Ts.q_e_dce, Ts.q_e_lrng, Ts.q_e_ise, Ts.q_es_n, Ts.q_es_c, Ts.q_os_n, Ts.q_os_c, Ts.q_oe_n, Ts.q_oe_s, Ts.q_if_n, Ts.q_if_s, Ts.q_it_of, Ts.q_it_r1, Ts.q_it_r2, Ts.q_it_en, Ts.q_it_z2, Ts.q_it_z3, Ts.q_nt_l, Ts.q_nt_s, Ts.q_im_s, Ts.q_im_l, Ts.q_im_t, Ts.q_s_set, Ts.q_s_new, Ts.q_s_unp, Ts.q_s_app, Ts.q_s_seti, Ts.q_s_ret, Ts.q_s_retn, Ts.q_s_ife, Ts.q_s_ex, Ts.q_s_pas, Ts.q_s_brk, Ts.q_s_cnt, Ts.q_s_rse, Ts.q_s_tri, Ts.q_ss_n, Ts.q_ss_c, Ts.q_tg_x, Ts.q_tg_xs, Ts.q_st_n, Ts.q_st_c, Ts.q_b_add_i, Ts.q_b_add_s, Ts.q_b_add_l, Ts.q_b_add_t, Ts.q_b_sub_i, Ts.q_b_mul_i, Ts.q_b_mul_s, Ts.q_b_fdiv_i, Ts.q_b_mod_i, Ts.q_b_pow_i, Ts.q_c_eq_a, Ts.q_c_ne_a, Ts.q_c_lt_i, Ts.q_c_le_i, Ts.q_c_gt_i, Ts.q_c_ge_i, Ts.q_c_is_b, Ts.q_c_isn_b, Ts.q_c_in__s, Ts.q_c_nin_s, Ts.q_c_in__t_int, Ts.q_c_nin_t_int, Ts.q_c_in__t_str, Ts.q_c_nin_t_str, Ts.q_c_in__t_bl, Ts.q_c_nin_t_bl, Ts.q_c_is_n, Ts.q_c_isn_n, Ts.q_c_in__l, Ts.q_c_nin_l, Ts.q_nn_non, Ts.q_nn_bl, Ts.q_nn_int, Ts.q_nn_str, Ts.q_nn_tup, Ts.q_nn_lst, Ts.q_nn_dct, Ts.q_i_s, Ts.q_i_l, Ts.q_i_t, Ts.q_sl_s, Ts.q_sl_l, Ts.q_sl_t, Ts.q_f_len_s, Ts.q_f_len_l, Ts.q_f_len_t, Ts.q_f_abs, Ts.q_f_int_i, Ts.q_f_int_b, Ts.q_f_str, Ts.q_f_list_l, Ts.q_f_list_t, Ts.q_f_tup_l, Ts.q_f_tup_t, Ts.q_f_sum, Ts.q_f_all, Ts.q_f_any, Ts.q_f_max2, Ts.q_f_min2, Ts.q_f_maxl, Ts.q_f_minl, Ts.q_f_isi, Ts.q_m_join, Ts.q_m_upper, Ts.q_m_lower, Ts.q_m_islower, Ts.q_m_isupper, Ts.q_m_isdigit, Ts.q_m_isalnum, Ts.q_m_split, Ts.q_isstr, Ts.q_ni_non, Ts.q_is_str_non, Ts.q_is_tuple_non, Ts.q_is_int_non, Ts.q_is_bool_non, Ts.q_is_list_non, Ts.q_ni_bl, Ts.q_is_str_bl, Ts.q_is_tuple_bl, Ts.q_is_int_bl, Ts.q_is_bool_bl, Ts.q_is_list_bl, Ts.q_ni_int, Ts.q_is_str_int, Ts.q_is_tuple_int, Ts.q_is_int_int, Ts.q_is_bool_int, Ts.q_is_list_int, Ts.q_ni_str, Ts.q_is_str_str, Ts.q_is_tuple_str, Ts.q_is_int_str, Ts.q_is_bool_str, Ts.q_is_list_str, Ts.q_ni_tup, Ts.q_is_str_tup, Ts.q_is_tuple_tup, Ts.q_is_int_tup, Ts.q_is_bool_tup, Ts.q_is_list_tup, Ts.q_ni_lst, Ts.q_is_str_lst, Ts.q_is_tuple_lst, Ts.q_is_int_lst, Ts.q_is_bool_lst, Ts.q_is_list_lst, Ts.q_ni_dct, Ts.q_is_str_dct, Ts.q_is_tuple_dct, Ts.q_is_int_dct, Ts.q_is_bool_dct, Ts.q_is_list_dct, Ts.q_s_for, Ts.q_s_whl, Ts.q_e_lc, Option.some.injEq, exists_eq_left', exists_eq_left, D.bl.injEq, D.int.injEq, D.str.injEq, D.lst.injEq, D.tup.injEq, Ts.Sl.lst.injEq, List.map_cons, List.map_nil, List.length_cons, List.length_nil, List.getElem?_cons_zero, List.getElem?_cons_succ, List.set_cons_zero, List.set_cons_succ, and_true, true_and, exists_and_left, if_true, if_false, Bool.false_eq_true, reduceIte, reduceCtorEq, Bool.not_true, Bool.not_false]
    refine ⟨(deed_ok d hd).1, by decide, ?_⟩
    rw [if_neg (by simp only [beq_iff_eq]; exact (deed_ok d hd).2)]
    refine ⟨rfl, (a, t), ⟨rfl, ha, ht, hn⟩, rfl, (b, t), ⟨rfl, hb, ht, hn⟩, ?_⟩
    dsimp only
    simp only [b_answer_of_3, m_ans, Ts.q_o_v, Ts.q_o_k, Ts.q_o_g, Ts.q_o_bin, Ts.q_o_neg, Ts.q_o_cmp, Ts.q_o_cmp2, Ts.q_o_and, Ts.q_o_or, Ts.q_o_not, Ts.q_o_ite, Ts.q_o_tup, Ts.q_o_lst, Ts.q_o_ix, Ts.q_o_sl, Ts.q_o_call, Ts.q_o_bi, Ts.q_o_mt, Ts.q_o_lc, Ts.q_o_lrng, Ts.q_o_dic, Ts.q_o_dce, Ts.q_o_ise, Ts.q_o_o, Ts.q_od_v, Ts.q_od_o, Ts.q_ods_n, Ts.q_ods_c, Ts.q_sv_v, Ts.q_sv_l, Ts.q_own_l, Ts.q_isl_l, Ts.q_vs_v, Ts.q_vs_l, Ts.q_e_v, Ts.q_e_k, Ts.q_e_g, Ts.q_e_bin, Ts.q_e_neg, Ts.q_e_cmp, Ts.q_e_cmp2, Ts.q_e_and, Ts.q_e_or, Ts.q_e_not, Ts.q_e_ite, Ts.q_e_tup, Ts.q_e_lst, Ts.q_e_ix, Ts.q_e_sl, Ts.q_e_call, Ts.q_e_bi, Ts.q_e_mt, Ts.q_e_dic, Ts.q_e_dce, Ts.q_e_lrng, Ts.q_e_ise, Ts.q_es_n, Ts.q_es_c, Ts.q_os_n, Ts.q_os_c, Ts.q_oe_n, Ts.q_oe_s, Ts.q_if_n, Ts.q_if_s, Ts.q_it_of, Ts.q_it_r1, Ts.q_it_r2, Ts.q_it_en, Ts.q_it_z2, Ts.q_it_z3, Ts.q_nt_l, Ts.q_nt_s, Ts.q_im_s, Ts.q_im_l, Ts.q_im_t, Ts.q_s_set, Ts.q_s_new, Ts.q_s_unp, Ts.q_s_app, Ts.q_s_seti, Ts.q_s_ret, Ts.q_s_retn, Ts.q_s_ife, Ts.q_s_ex, Ts.q_s_pas, Ts.q_s_brk, Ts.q_s_cnt, Ts.q_s_rse, Ts.q_s_tri, Ts.q_ss_n, Ts.q_ss_c, Ts.q_tg_x, Ts.q_tg_xs, Ts.q_st_n, Ts.q_st_c, Ts.q_b_add_i, Ts.q_b_add_s, Ts.q_b_add_l, Ts.q_b_add_t, Ts.q_b_sub_i, Ts.q_b_mul_i, Ts.q_b_mul_s, Ts.q_b_fdiv_i, Ts.q_b_mod_i, Ts.q_b_pow_i, Ts.q_c_eq_a, Ts.q_c_ne_a, Ts.q_c_lt_i, Ts.q_c_le_i, Ts.q_c_gt_i, Ts.q_c_ge_i, Ts.q_c_is_b, Ts.q_c_isn_b, Ts.q_c_in__s, Ts.q_c_nin_s, Ts.q_c_in__t_int, Ts.q_c_nin_t_int, Ts.q_c_in__t_str, Ts.q_c_nin_t_str, Ts.q_c_in__t_bl, Ts.q_c_nin_t_bl, Ts.q_c_is_n, Ts.q_c_isn_n, Ts.q_c_in__l, Ts.q_c_nin_l, Ts.q_nn_non, Ts.q_nn_bl, Ts.q_nn_int, Ts.q_nn_str, Ts.q_nn_tup, Ts.q_nn_lst, Ts.q_nn_dct, Ts.q_i_s, Ts.q_i_l, Ts.q_i_t, Ts.q_sl_s, Ts.q_sl_l, Ts.q_sl_t, Ts.q_f_len_s, Ts.q_f_len_l, Ts.q_f_len_t, Ts.q_f_abs, Ts.q_f_int_i, Ts.q_f_int_b, Ts.q_f_str, Ts.q_f_list_l, Ts.q_f_list_t, Ts.q_f_tup_l, Ts.q_f_tup_t, Ts.q_f_sum, Ts.q_f_all, Ts.q_f_any, Ts.q_f_max2, Ts.q_f_min2, Ts.q_f_maxl, Ts.q_f_minl, Ts.q_f_isi, Ts.q_m_join, Ts.q_m_upper, Ts.q_m_lower, Ts.q_m_islower, Ts.q_m_isupper, Ts.q_m_isdigit, Ts.q_m_isalnum, Ts.q_m_split, Ts.q_isstr, Ts.q_ni_non, Ts.q_is_str_non, Ts.q_is_tuple_non, Ts.q_is_int_non, Ts.q_is_bool_non, Ts.q_is_list_non, Ts.q_ni_bl, Ts.q_is_str_bl, Ts.q_is_tuple_bl, Ts.q_is_int_bl, Ts.q_is_bool_bl, Ts.q_is_list_bl, Ts.q_ni_int, Ts.q_is_str_int, Ts.q_is_tuple_int, Ts.q_is_int_int, Ts.q_is_bool_int, Ts.q_is_list_int, Ts.q_ni_str, Ts.q_is_str_str, Ts.q_is_tuple_str, Ts.q_is_int_str, Ts.q_is_bool_str, Ts.q_is_list_str, Ts.q_ni_tup, Ts.q_is_str_tup, Ts.q_is_tuple_tup, Ts.q_is_int_tup, Ts.q_is_bool_tup, Ts.q_is_list_tup, Ts.q_ni_lst, Ts.q_is_str_lst, Ts.q_is_tuple_lst, Ts.q_is_int_lst, Ts.q_is_bool_lst, Ts.q_is_list_lst, Ts.q_ni_dct, Ts.q_is_str_dct, Ts.q_is_tuple_dct, Ts.q_is_int_dct, Ts.q_is_bool_dct, Ts.q_is_list_dct, Ts.q_s_for, Ts.q_s_whl, Ts.q_e_lc, Option.some.injEq, exists_eq_left', exists_eq_left, D.bl.injEq, D.int.injEq, D.str.injEq, D.lst.injEq, D.tup.injEq, Ts.Sl.lst.injEq, List.map_cons, List.map_nil, List.length_cons, List.length_nil, List.getElem?_cons_zero, List.getElem?_cons_succ, List.set_cons_zero, List.set_cons_succ, and_true, true_and, exists_and_left, if_true, if_false, Bool.false_eq_true, reduceIte, reduceCtorEq, Bool.not_true, Bool.not_false]
    cases ea : spotT a t with
    | none =>
      simp only [dO, Ts.q_o_v, Ts.q_o_k, Ts.q_o_g, Ts.q_o_bin, Ts.q_o_neg, Ts.q_o_cmp, Ts.q_o_cmp2, Ts.q_o_and, Ts.q_o_or, Ts.q_o_not, Ts.q_o_ite, Ts.q_o_tup, Ts.q_o_lst, Ts.q_o_ix, Ts.q_o_sl, Ts.q_o_call, Ts.q_o_bi, Ts.q_o_mt, Ts.q_o_lc, Ts.q_o_lrng, Ts.q_o_dic, Ts.q_o_dce, Ts.q_o_ise, Ts.q_o_o, Ts.q_od_v, Ts.q_od_o, Ts.q_ods_n, Ts.q_ods_c, Ts.q_sv_v, Ts.q_sv_l, Ts.q_own_l, Ts.q_isl_l, Ts.q_vs_v, Ts.q_vs_l, Ts.q_e_v, Ts.q_e_k, Ts.q_e_g, Ts.q_e_bin, Ts.q_e_neg, Ts.q_e_cmp, Ts.q_e_cmp2, Ts.q_e_and, Ts.q_e_or, Ts.q_e_not, Ts.q_e_ite, Ts.q_e_tup, Ts.q_e_lst, Ts.q_e_ix, Ts.q_e_sl, Ts.q_e_call, Ts.q_e_bi, Ts.q_e_mt, Ts.q_e_dic, Ts.q_e_dce, Ts.q_e_lrng, Ts.q_e_ise, Ts.q_es_n, Ts.q_es_c, Ts.q_os_n, Ts.q_os_c, Ts.q_oe_n, Ts.q_oe_s, Ts.q_if_n, Ts.q_if_s, Ts.q_it_of, Ts.q_it_r1, Ts.q_it_r2, Ts.q_it_en, Ts.q_it_z2, Ts.q_it_z3, Ts.q_nt_l, Ts.q_nt_s, Ts.q_im_s, Ts.q_im_l, Ts.q_im_t, Ts.q_s_set, Ts.q_s_new, Ts.q_s_unp, Ts.q_s_app, Ts.q_s_seti, Ts.q_s_ret, Ts.q_s_retn, Ts.q_s_ife, Ts.q_s_ex, Ts.q_s_pas, Ts.q_s_brk, Ts.q_s_cnt, Ts.q_s_rse, Ts.q_s_tri, Ts.q_ss_n, Ts.q_ss_c, Ts.q_tg_x, Ts.q_tg_xs, Ts.q_st_n, Ts.q_st_c, Ts.q_b_add_i, Ts.q_b_add_s, Ts.q_b_add_l, Ts.q_b_add_t, Ts.q_b_sub_i, Ts.q_b_mul_i, Ts.q_b_mul_s, Ts.q_b_fdiv_i, Ts.q_b_mod_i, Ts.q_b_pow_i, Ts.q_c_eq_a, Ts.q_c_ne_a, Ts.q_c_lt_i, Ts.q_c_le_i, Ts.q_c_gt_i, Ts.q_c_ge_i, Ts.q_c_is_b, Ts.q_c_isn_b, Ts.q_c_in__s, Ts.q_c_nin_s, Ts.q_c_in__t_int, Ts.q_c_nin_t_int, Ts.q_c_in__t_str, Ts.q_c_nin_t_str, Ts.q_c_in__t_bl, Ts.q_c_nin_t_bl, Ts.q_c_is_n, Ts.q_c_isn_n, Ts.q_c_in__l, Ts.q_c_nin_l, Ts.q_nn_non, Ts.q_nn_bl, Ts.q_nn_int, Ts.q_nn_str, Ts.q_nn_tup, Ts.q_nn_lst, Ts.q_nn_dct, Ts.q_i_s, Ts.q_i_l, Ts.q_i_t, Ts.q_sl_s, Ts.q_sl_l, Ts.q_sl_t, Ts.q_f_len_s, Ts.q_f_len_l, Ts.q_f_len_t, Ts.q_f_abs, Ts.q_f_int_i, Ts.q_f_int_b, Ts.q_f_str, Ts.q_f_list_l, Ts.q_f_list_t, Ts.q_f_tup_l, Ts.q_f_tup_t, Ts.q_f_sum, Ts.q_f_all, Ts.q_f_any, Ts.q_f_max2, Ts.q_f_min2, Ts.q_f_maxl, Ts.q_f_minl, Ts.q_f_isi, Ts.q_m_join, Ts.q_m_upper, Ts.q_m_lower, Ts.q_m_islower, Ts.q_m_isupper, Ts.q_m_isdigit, Ts.q_m_isalnum, Ts.q_m_split, Ts.q_isstr, Ts.q_ni_non, Ts.q_is_str_non, Ts.q_is_tuple_non, Ts.q_is_int_non, Ts.q_is_bool_non, Ts.q_is_list_non, Ts.q_ni_bl, Ts.q_is_str_bl, Ts.q_is_tuple_bl, Ts.q_is_int_bl, Ts.q_is_bool_bl, Ts.q_is_list_bl, Ts.q_ni_int, Ts.q_is_str_int, Ts.q_is_tuple_int, Ts.q_is_int_int, Ts.q_is_bool_int, Ts.q_is_list_int, Ts.q_ni_str, Ts.q_is_str_str, Ts.q_is_tuple_str, Ts.q_is_int_str, Ts.q_is_bool_str, Ts.q_is_list_str, Ts.q_ni_tup, Ts.q_is_str_tup, Ts.q_is_tuple_tup, Ts.q_is_int_tup, Ts.q_is_bool_tup, Ts.q_is_list_tup, Ts.q_ni_lst, Ts.q_is_str_lst, Ts.q_is_tuple_lst, Ts.q_is_int_lst, Ts.q_is_bool_lst, Ts.q_is_list_lst, Ts.q_ni_dct, Ts.q_is_str_dct, Ts.q_is_tuple_dct, Ts.q_is_int_dct, Ts.q_is_bool_dct, Ts.q_is_list_dct, Ts.q_s_for, Ts.q_s_whl, Ts.q_e_lc, Option.some.injEq, exists_eq_left', exists_eq_left, D.bl.injEq, D.int.injEq, D.str.injEq, D.lst.injEq, D.tup.injEq, Ts.Sl.lst.injEq, List.map_cons, List.map_nil, List.length_cons, List.length_nil, List.getElem?_cons_zero, List.getElem?_cons_succ, List.set_cons_zero, List.set_cons_succ, and_true, true_and, exists_and_left, if_true, if_false, Bool.false_eq_true, reduceIte, reduceCtorEq, Bool.not_true, Bool.not_false]
      rw [ea] at e
      exact e _ _ rfl
    | some i =>
      simp only [dO, Ts.q_o_v, Ts.q_o_k, Ts.q_o_g, Ts.q_o_bin, Ts.q_o_neg, Ts.q_o_cmp, Ts.q_o_cmp2, Ts.q_o_and, Ts.q_o_or, Ts.q_o_not, Ts.q_o_ite, Ts.q_o_tup, Ts.q_o_lst, Ts.q_o_ix, Ts.q_o_sl, Ts.q_o_call, Ts.q_o_bi, Ts.q_o_mt, Ts.q_o_lc, Ts.q_o_lrng, Ts.q_o_dic, Ts.q_o_dce, Ts.q_o_ise, Ts.q_o_o, Ts.q_od_v, Ts.q_od_o, Ts.q_ods_n, Ts.q_ods_c, Ts.q_sv_v, Ts.q_sv_l, Ts.q_own_l, Ts.q_isl_l, Ts.q_vs_v, Ts.q_vs_l, Ts.q_e_v, Ts.q_e_k, Ts.q_e_g, Ts.q_e_bin, Ts.q_e_neg, Ts.q_e_cmp, Ts.q_e_cmp2, Ts.q_e_and, Ts.q_e_or, Ts.q_e_not, Ts.q_e_ite, Ts.q_e_tup, Ts.q_e_lst, Ts.q_e_ix, Ts.q_e_sl, Ts.q_e_call, Ts.q_e_bi, Ts.q_e_mt, Ts.q_e_dic, Ts.q_e_dce, Ts.q_e_lrng, Ts.q_e_ise, Ts.q_es_n, Ts.q_es_c, Ts.q_os_n, Ts.q_os_c, Ts.q_oe_n, Ts.q_oe_s, Ts.q_if_n, Ts.q_if_s, Ts.q_it_of, Ts.q_it_r1, Ts.q_it_r2, Ts.q_it_en, Ts.q_it_z2, Ts.q_it_z3, Ts.q_nt_l, Ts.q_nt_s, Ts.q_im_s, Ts.q_im_l, Ts.q_im_t, Ts.q_s_set, Ts.q_s_new, Ts.q_s_unp, Ts.q_s_app, Ts.q_s_seti, Ts.q_s_ret, Ts.q_s_retn, Ts.q_s_ife, Ts.q_s_ex, Ts.q_s_pas, Ts.q_s_brk, Ts.q_s_cnt, Ts.q_s_rse, Ts.q_s_tri, Ts.q_ss_n, Ts.q_ss_c, Ts.q_tg_x, Ts.q_tg_xs, Ts.q_st_n, Ts.q_st_c, Ts.q_b_add_i, Ts.q_b_add_s, Ts.q_b_add_l, Ts.q_b_add_t, Ts.q_b_sub_i, Ts.q_b_mul_i, Ts.q_b_mul_s, Ts.q_b_fdiv_i, Ts.q_b_mod_i, Ts.q_b_pow_i, Ts.q_c_eq_a, Ts.q_c_ne_a, Ts.q_c_lt_i, Ts.q_c_le_i, Ts.q_c_gt_i, Ts.q_c_ge_i, Ts.q_c_is_b, Ts.q_c_isn_b, Ts.q_c_in__s, Ts.q_c_nin_s, Ts.q_c_in__t_int, Ts.q_c_nin_t_int, Ts.q_c_in__t_str, Ts.q_c_nin_t_str, Ts.q_c_in__t_bl, Ts.q_c_nin_t_bl, Ts.q_c_is_n, Ts.q_c_isn_n, Ts.q_c_in__l, Ts.q_c_nin_l, Ts.q_nn_non, Ts.q_nn_bl, Ts.q_nn_int, Ts.q_nn_str, Ts.q_nn_tup, Ts.q_nn_lst, Ts.q_nn_dct, Ts.q_i_s, Ts.q_i_l, Ts.q_i_t, Ts.q_sl_s, Ts.q_sl_l, Ts.q_sl_t, Ts.q_f_len_s, Ts.q_f_len_l, Ts.q_f_len_t, Ts.q_f_abs, Ts.q_f_int_i, Ts.q_f_int_b, Ts.q_f_str, Ts.q_f_list_l, Ts.q_f_list_t, Ts.q_f_tup_l, Ts.q_f_tup_t, Ts.q_f_sum, Ts.q_f_all, Ts.q_f_any, Ts.q_f_max2, Ts.q_f_min2, Ts.q_f_maxl, Ts.q_f_minl, Ts.q_f_isi, Ts.q_m_join, Ts.q_m_upper, Ts.q_m_lower, Ts.q_m_islower, Ts.q_m_isupper, Ts.q_m_isdigit, Ts.q_m_isalnum, Ts.q_m_split, Ts.q_isstr, Ts.q_ni_non, Ts.q_is_str_non, Ts.q_is_tuple_non, Ts.q_is_int_non, Ts.q_is_bool_non, Ts.q_is_list_non, Ts.q_ni_bl, Ts.q_is_str_bl, Ts.q_is_tuple_bl, Ts.q_is_int_bl, Ts.q_is_bool_bl, Ts.q_is_list_bl, Ts.q_ni_int, Ts.q_is_str_int, Ts.q_is_tuple_int, Ts.q_is_int_int, Ts.q_is_bool_int, Ts.q_is_list_int, Ts.q_ni_str, Ts.q_is_str_str, Ts.q_is_tuple_str, Ts.q_is_int_str, Ts.q_is_bool_str, Ts.q_is_list_str, Ts.q_ni_tup, Ts.q_is_str_tup, Ts.q_is_tuple_tup, Ts.q_is_int_tup, Ts.q_is_bool_tup, Ts.q_is_list_tup, Ts.q_ni_lst, Ts.q_is_str_lst, Ts.q_is_tuple_lst, Ts.q_is_int_lst, Ts.q_is_bool_lst, Ts.q_is_list_lst, Ts.q_ni_dct, Ts.q_is_str_dct, Ts.q_is_tuple_dct, Ts.q_is_int_dct, Ts.q_is_bool_dct, Ts.q_is_list_dct, Ts.q_s_for, Ts.q_s_whl, Ts.q_e_lc, Option.some.injEq, exists_eq_left', exists_eq_left, D.bl.injEq, D.int.injEq, D.str.injEq, D.lst.injEq, D.tup.injEq, Ts.Sl.lst.injEq, List.map_cons, List.map_nil, List.length_cons, List.length_nil, List.getElem?_cons_zero, List.getElem?_cons_succ, List.set_cons_zero, List.set_cons_succ, and_true, true_and, exists_and_left, if_true, if_false, Bool.false_eq_true, reduceIte, reduceCtorEq, Bool.not_true, Bool.not_false]
      cases eb : spotT b t with
      | none =>
        simp only [Ts.q_o_v, Ts.q_o_k, Ts.q_o_g, Ts.q_o_bin, Ts.q_o_neg, Ts.q_o_cmp, Ts.q_o_cmp2, Ts.q_o_and, Ts.q_o_or, Ts.q_o_not, Ts.q_o_ite, Ts.q_o_tup, Ts.q_o_lst, Ts.q_o_ix, Ts.q_o_sl, Ts.q_o_call, Ts.q_o_bi, Ts.q_o_mt, Ts.q_o_lc, Ts.q_o_lrng, Ts.q_o_dic, Ts.q_o_dce, Ts.q_o_ise, Ts.q_o_o, Ts.q_od_v, Ts.q_od_o, Ts.q_ods_n, Ts.q_ods_c, Ts.q_sv_v, Ts.q_sv_l, Ts.q_own_l, Ts.q_isl_l, Ts.q_vs_v, Ts.q_vs_l, Ts.q_e_v, Ts.q_e_k, Ts.q_e_g, Ts.q_e_bin, Ts.q_e_neg, Ts.q_e_cmp, Ts.q_e_cmp2, Ts.q_e_and, Ts.q_e_or, Ts.q_e_not, Ts.q_e_ite, Ts.q_e_tup, Ts.q_e_lst, Ts.q_e_ix, Ts.q_e_sl, Ts.q_e_call, Ts.q_e_bi, Ts.q_e_mt, Ts.q_e_dic, Ts.q_e_dce, Ts.q_e_lrng, Ts.q_e_ise, Ts.q_es_n, Ts.q_es_c, Ts.q_os_n, Ts.q_os_c, Ts.q_oe_n, Ts.q_oe_s, Ts.q_if_n, Ts.q_if_s, Ts.q_it_of, Ts.q_it_r1, Ts.q_it_r2, Ts.q_it_en, Ts.q_it_z2, Ts.q_it_z3, Ts.q_nt_l, Ts.q_nt_s, Ts.q_im_s, Ts.q_im_l, Ts.q_im_t, Ts.q_s_set, Ts.q_s_new, Ts.q_s_unp, Ts.q_s_app, Ts.q_s_seti, Ts.q_s_ret, Ts.q_s_retn, Ts.q_s_ife, Ts.q_s_ex, Ts.q_s_pas, Ts.q_s_brk, Ts.q_s_cnt, Ts.q_s_rse, Ts.q_s_tri, Ts.q_ss_n, Ts.q_ss_c, Ts.q_tg_x, Ts.q_tg_xs, Ts.q_st_n, Ts.q_st_c, Ts.q_b_add_i, Ts.q_b_add_s, Ts.q_b_add_l, Ts.q_b_add_t, Ts.q_b_sub_i, Ts.q_b_mul_i, Ts.q_b_mul_s, Ts.q_b_fdiv_i, Ts.q_b_mod_i, Ts.q_b_pow_i, Ts.q_c_eq_a, Ts.q_c_ne_a, Ts.q_c_lt_i, Ts.q_c_le_i, Ts.q_c_gt_i, Ts.q_c_ge_i, Ts.q_c_is_b, Ts.q_c_isn_b, Ts.q_c_in__s, Ts.q_c_nin_s, Ts.q_c_in__t_int, Ts.q_c_nin_t_int, Ts.q_c_in__t_str, Ts.q_c_nin_t_str, Ts.q_c_in__t_bl, Ts.q_c_nin_t_bl, Ts.q_c_is_n, Ts.q_c_isn_n, Ts.q_c_in__l, Ts.q_c_nin_l, Ts.q_nn_non, Ts.q_nn_bl, Ts.q_nn_int, Ts.q_nn_str, Ts.q_nn_tup, Ts.q_nn_lst, Ts.q_nn_dct, Ts.q_i_s, Ts.q_i_l, Ts.q_i_t, Ts.q_sl_s, Ts.q_sl_l, Ts.q_sl_t, Ts.q_f_len_s, Ts.q_f_len_l, Ts.q_f_len_t, Ts.q_f_abs, Ts.q_f_int_i, Ts.q_f_int_b, Ts.q_f_str, Ts.q_f_list_l, Ts.q_f_list_t, Ts.q_f_tup_l, Ts.q_f_tup_t, Ts.q_f_sum, Ts.q_f_all, Ts.q_f_any, Ts.q_f_max2, Ts.q_f_min2, Ts.q_f_maxl, Ts.q_f_minl, Ts.q_f_isi, Ts.q_m_join, Ts.q_m_upper, Ts.q_m_lower, Ts.q_m_islower, Ts.q_m_isupper, Ts.q_m_isdigit, Ts.q_m_isalnum, Ts.q_m_split, Ts.q_isstr, Ts.q_ni_non, Ts.q_is_str_non, Ts.q_is_tuple_non, Ts.q_is_int_non, Ts.q_is_bool_non, Ts.q_is_list_non, Ts.q_ni_bl, Ts.q_is_str_bl, Ts.q_is_tuple_bl, Ts.q_is_int_bl, Ts.q_is_bool_bl, Ts.q_is_list_bl, Ts.q_ni_int, Ts.q_is_str_int, Ts.q_is_tuple_int, Ts.q_is_int_int, Ts.q_is_bool_int, Ts.q_is_list_int, Ts.q_ni_str, Ts.q_is_str_str, Ts.q_is_tuple_str, Ts.q_is_int_str, Ts.q_is_bool_str, Ts.q_is_list_str, Ts.q_ni_tup, Ts.q_is_str_tup, Ts.q_is_tuple_tup, Ts.q_is_int_tup, Ts.q_is_bool_tup, Ts.q_is_list_tup, Ts.q_ni_lst, Ts.q_is_str_lst, Ts.q_is_tuple_lst, Ts.q_is_int_lst, Ts.q_is_bool_lst, Ts.q_is_list_lst, Ts.q_ni_dct, Ts.q_is_str_dct, Ts.q_is_tuple_dct, Ts.q_is_int_dct, Ts.q_is_bool_dct, Ts.q_is_list_dct, Ts.q_s_for, Ts.q_s_whl, Ts.q_e_lc, Option.some.injEq, exists_eq_left', exists_eq_left, D.bl.injEq, D.int.injEq, D.str.injEq, D.lst.injEq, D.tup.injEq, Ts.Sl.lst.injEq, List.map_cons, List.map_nil, List.length_cons, List.length_nil, List.getElem?_cons_zero, List.getElem?_cons_succ, List.set_cons_zero, List.set_cons_succ, and_true, true_and, exists_and_left, if_true, if_false, Bool.false_eq_true, reduceIte, reduceCtorEq, Bool.not_true, Bool.not_false]
        rw [ea, eb] at e
        exact e _ _ rfl
      | some j =>
        simp only [Ts.q_o_v, Ts.q_o_k, Ts.q_o_g, Ts.q_o_bin, Ts.q_o_neg, Ts.q_o_cmp, Ts.q_o_cmp2, Ts.q_o_and, Ts.q_o_or, Ts.q_o_not, Ts.q_o_ite, Ts.q_o_tup, Ts.q_o_lst, Ts.q_o_ix, Ts.q_o_sl, Ts.q_o_call, Ts.q_o_bi, Ts.q_o_mt, Ts.q_o_lc, Ts.q_o_lrng, Ts.q_o_dic, Ts.q_o_dce, Ts.q_o_ise, Ts.q_o_o, Ts.q_od_v, Ts.q_od_o, Ts.q_ods_n, Ts.q_ods_c, Ts.q_sv_v, Ts.q_sv_l, Ts.q_own_l, Ts.q_isl_l, Ts.q_vs_v, Ts.q_vs_l, Ts.q_e_v, Ts.q_e_k, Ts.q_e_g, Ts.q_e_bin, Ts.q_e_neg, Ts.q_e_cmp, Ts.q_e_cmp2, Ts.q_e_and, Ts.q_e_or, Ts.q_e_not, Ts.q_e_ite, Ts.q_e_tup, Ts.q_e_lst, Ts.q_e_ix, Ts.q_e_sl, Ts.q_e_call, Ts.q_e_bi, Ts.q_e_mt, Ts.q_e_dic, Ts.q_e_dce, Ts.q_e_lrng, Ts.q_e_ise, Ts.q_es_n, Ts.q_es_c, Ts.q_os_n, Ts.q_os_c, Ts.q_oe_n, Ts.q_oe_s, Ts.q_if_n, Ts.q_if_s, Ts.q_it_of, Ts.q_it_r1, Ts.q_it_r2, Ts.q_it_en, Ts.q_it_z2, Ts.q_it_z3, Ts.q_nt_l, Ts.q_nt_s, Ts.q_im_s, Ts.q_im_l, Ts.q_im_t, Ts.q_s_set, Ts.q_s_new, Ts.q_s_unp, Ts.q_s_app, Ts.q_s_seti, Ts.q_s_ret, Ts.q_s_retn, Ts.q_s_ife, Ts.q_s_ex, Ts.q_s_pas, Ts.q_s_brk, Ts.q_s_cnt, Ts.q_s_rse, Ts.q_s_tri, Ts.q_ss_n, Ts.q_ss_c, Ts.q_tg_x, Ts.q_tg_xs, Ts.q_st_n, Ts.q_st_c, Ts.q_b_add_i, Ts.q_b_add_s, Ts.q_b_add_l, Ts.q_b_add_t, Ts.q_b_sub_i, Ts.q_b_mul_i, Ts.q_b_mul_s, Ts.q_b_fdiv_i, Ts.q_b_mod_i, Ts.q_b_pow_i, Ts.q_c_eq_a, Ts.q_c_ne_a, Ts.q_c_lt_i, Ts.q_c_le_i, Ts.q_c_gt_i, Ts.q_c_ge_i, Ts.q_c_is_b, Ts.q_c_isn_b, Ts.q_c_in__s, Ts.q_c_nin_s, Ts.q_c_in__t_int, Ts.q_c_nin_t_int, Ts.q_c_in__t_str, Ts.q_c_nin_t_str, Ts.q_c_in__t_bl, Ts.q_c_nin_t_bl, Ts.q_c_is_n, Ts.q_c_isn_n, Ts.q_c_in__l, Ts.q_c_nin_l, Ts.q_nn_non, Ts.q_nn_bl, Ts.q_nn_int, Ts.q_nn_str, Ts.q_nn_tup, Ts.q_nn_lst, Ts.q_nn_dct, Ts.q_i_s, Ts.q_i_l, Ts.q_i_t, Ts.q_sl_s, Ts.q_sl_l, Ts.q_sl_t, Ts.q_f_len_s, Ts.q_f_len_l, Ts.q_f_len_t, Ts.q_f_abs, Ts.q_f_int_i, Ts.q_f_int_b, Ts.q_f_str, Ts.q_f_list_l, Ts.q_f_list_t, Ts.q_f_tup_l, Ts.q_f_tup_t, Ts.q_f_sum, Ts.q_f_all, Ts.q_f_any, Ts.q_f_max2, Ts.q_f_min2, Ts.q_f_maxl, Ts.q_f_minl, Ts.q_f_isi, Ts.q_m_join, Ts.q_m_upper, Ts.q_m_lower, Ts.q_m_islower, Ts.q_m_isupper, Ts.q_m_isdigit, Ts.q_m_isalnum, Ts.q_m_split, Ts.q_isstr, Ts.q_ni_non, Ts.q_is_str_non, Ts.q_is_tuple_non, Ts.q_is_int_non, Ts.q_is_bool_non, Ts.q_is_list_non, Ts.q_ni_bl, Ts.q_is_str_bl, Ts.q_is_tuple_bl, Ts.q_is_int_bl, Ts.q_is_bool_bl, Ts.q_is_list_bl, Ts.q_ni_int, Ts.q_is_str_int, Ts.q_is_tuple_int, Ts.q_is_int_int, Ts.q_is_bool_int, Ts.q_is_list_int, Ts.q_ni_str, Ts.q_is_str_str, Ts.q_is_tuple_str, Ts.q_is_int_str, Ts.q_is_bool_str, Ts.q_is_list_str, Ts.q_ni_tup, Ts.q_is_str_tup, Ts.q_is_tuple_tup, Ts.q_is_int_tup, Ts.q_is_bool_tup, Ts.q_is_list_tup, Ts.q_ni_lst, Ts.q_is_str_lst, Ts.q_is_tuple_lst, Ts.q_is_int_lst, Ts.q_is_bool_lst, Ts.q_is_list_lst, Ts.q_ni_dct, Ts.q_is_str_dct, Ts.q_is_tuple_dct, Ts.q_is_int_dct, Ts.q_is_bool_dct, Ts.q_is_list_dct, Ts.q_s_for, Ts.q_s_whl, Ts.q_e_lc, Option.some.injEq, exists_eq_left', exists_eq_left, D.bl.injEq, D.int.injEq, D.str.injEq, D.lst.injEq, D.tup.injEq, Ts.Sl.lst.injEq, List.map_cons, List.map_nil, List.length_cons, List.length_nil, List.getElem?_cons_zero, List.getElem?_cons_succ, List.set_cons_zero, List.set_cons_succ, and_true, true_and, exists_and_left, if_true, if_false, Bool.false_eq_true, reduceIte, reduceCtorEq, Bool.not_true, Bool.not_false]
        rw [ea, eb] at e
        by_cases hij : i < j
        · rw [if_neg (by simp only [decide_eq_true_eq]; omega)]
          simp only [b_answer_of_4, dPc, at0, x_changed, r_changed, forall_eq, false_implies, implies_true, Ts.q_o_v, Ts.q_o_k, Ts.q_o_g, Ts.q_o_bin, Ts.q_o_neg, Ts.q_o_cmp, Ts.q_o_cmp2, Ts.q_o_and, Ts.q_o_or, Ts.q_o_not, Ts.q_o_ite, Ts.q_o_tup, Ts.q_o_lst, Ts.q_o_ix, Ts.q_o_sl, Ts.q_o_call, Ts.q_o_bi, Ts.q_o_mt, Ts.q_o_lc, Ts.q_o_lrng, Ts.q_o_dic, Ts.q_o_dce, Ts.q_o_ise, Ts.q_o_o, Ts.q_od_v, Ts.q_od_o, Ts.q_ods_n, Ts.q_ods_c, Ts.q_sv_v, Ts.q_sv_l, Ts.q_own_l, Ts.q_isl_l, Ts.q_vs_v, Ts.q_vs_l, Ts.q_e_v, Ts.q_e_k, Ts.q_e_g, Ts.q_e_bin, Ts.q_e_neg, Ts.q_e_cmp, Ts.q_e_cmp2, Ts.q_e_and, Ts.q_e_or, Ts.q_e_not, Ts.q_e_ite, Ts.q_e_tup, Ts.q_e_lst, Ts.q_e_ix, Ts.q_e_sl, Ts.q_e_call, Ts.q_e_bi, Ts.q_e_mt, Ts.q_e_dic, Ts.q_e_dce, Ts.q_e_lrng, Ts.q_e_ise, Ts.q_es_n, Ts.q_es_c, Ts.q_os_n, Ts.q_os_c, Ts.q_oe_n, Ts.q_oe_s, Ts.q_if_n, Ts.q_if_s, Ts.q_it_of, Ts.q_it_r1, Ts.q_it_r2, Ts.q_it_en, Ts.q_it_z2, Ts.q_it_z3, Ts.q_nt_l, Ts.q_nt_s, Ts.q_im_s, Ts.q_im_l, Ts.q_im_t, Ts.q_s_set, Ts.q_s_new, Ts.q_s_unp, Ts.q_s_app, Ts.q_s_seti, Ts.q_s_ret, Ts.q_s_retn, Ts.q_s_ife, Ts.q_s_ex, Ts.q_s_pas, Ts.q_s_brk, Ts.q_s_cnt, Ts.q_s_rse, Ts.q_s_tri, Ts.q_ss_n, Ts.q_ss_c, Ts.q_tg_x, Ts.q_tg_xs, Ts.q_st_n, Ts.q_st_c, Ts.q_b_add_i, Ts.q_b_add_s, Ts.q_b_add_l, Ts.q_b_add_t, Ts.q_b_sub_i, Ts.q_b_mul_i, Ts.q_b_mul_s, Ts.q_b_fdiv_i, Ts.q_b_mod_i, Ts.q_b_pow_i, Ts.q_c_eq_a, Ts.q_c_ne_a, Ts.q_c_lt_i, Ts.q_c_le_i, Ts.q_c_gt_i, Ts.q_c_ge_i, Ts.q_c_is_b, Ts.q_c_isn_b, Ts.q_c_in__s, Ts.q_c_nin_s, Ts.q_c_in__t_int, Ts.q_c_nin_t_int, Ts.q_c_in__t_str, Ts.q_c_nin_t_str, Ts.q_c_in__t_bl, Ts.q_c_nin_t_bl, Ts.q_c_is_n, Ts.q_c_isn_n, Ts.q_c_in__l, Ts.q_c_nin_l, Ts.q_nn_non, Ts.q_nn_bl, Ts.q_nn_int, Ts.q_nn_str, Ts.q_nn_tup, Ts.q_nn_lst, Ts.q_nn_dct, Ts.q_i_s, Ts.q_i_l, Ts.q_i_t, Ts.q_sl_s, Ts.q_sl_l, Ts.q_sl_t, Ts.q_f_len_s, Ts.q_f_len_l, Ts.q_f_len_t, Ts.q_f_abs, Ts.q_f_int_i, Ts.q_f_int_b, Ts.q_f_str, Ts.q_f_list_l, Ts.q_f_list_t, Ts.q_f_tup_l, Ts.q_f_tup_t, Ts.q_f_sum, Ts.q_f_all, Ts.q_f_any, Ts.q_f_max2, Ts.q_f_min2, Ts.q_f_maxl, Ts.q_f_minl, Ts.q_f_isi, Ts.q_m_join, Ts.q_m_upper, Ts.q_m_lower, Ts.q_m_islower, Ts.q_m_isupper, Ts.q_m_isdigit, Ts.q_m_isalnum, Ts.q_m_split, Ts.q_isstr, Ts.q_ni_non, Ts.q_is_str_non, Ts.q_is_tuple_non, Ts.q_is_int_non, Ts.q_is_bool_non, Ts.q_is_list_non, Ts.q_ni_bl, Ts.q_is_str_bl, Ts.q_is_tuple_bl, Ts.q_is_int_bl, Ts.q_is_bool_bl, Ts.q_is_list_bl, Ts.q_ni_int, Ts.q_is_str_int, Ts.q_is_tuple_int, Ts.q_is_int_int, Ts.q_is_bool_int, Ts.q_is_list_int, Ts.q_ni_str, Ts.q_is_str_str, Ts.q_is_tuple_str, Ts.q_is_int_str, Ts.q_is_bool_str, Ts.q_is_list_str, Ts.q_ni_tup, Ts.q_is_str_tup, Ts.q_is_tuple_tup, Ts.q_is_int_tup, Ts.q_is_bool_tup, Ts.q_is_list_tup, Ts.q_ni_lst, Ts.q_is_str_lst, Ts.q_is_tuple_lst, Ts.q_is_int_lst, Ts.q_is_bool_lst, Ts.q_is_list_lst, Ts.q_ni_dct, Ts.q_is_str_dct, Ts.q_is_tuple_dct, Ts.q_is_int_dct, Ts.q_is_bool_dct, Ts.q_is_list_dct, Ts.q_s_for, Ts.q_s_whl, Ts.q_e_lc, Option.some.injEq, exists_eq_left', exists_eq_left, D.bl.injEq, D.int.injEq, D.str.injEq, D.lst.injEq, D.tup.injEq, Ts.Sl.lst.injEq, List.map_cons, List.map_nil, List.length_cons, List.length_nil, List.getElem?_cons_zero, List.getElem?_cons_succ, List.set_cons_zero, List.set_cons_succ, and_true, true_and, exists_and_left, if_true, if_false, Bool.false_eq_true, reduceIte, reduceCtorEq, Bool.not_true, Bool.not_false]
          have hj := spot_le eb
          rw [cut_mid t i j hj (by omega)]
          have hl : ((t.drop i).take (j - i)).length ≤ 100 := by rw [List.length_take, List.length_drop]; omega
          exact ⟨by show t.length ≤ 16777216; omega, rfl, (d, (t.drop i).take (j - i)), ⟨rfl, hd, (ht.drop _).take _, hl⟩, e _ _ (by dsimp only; rw [if_pos hij]; rfl)⟩
        · rw [if_pos (by simp only [decide_eq_true_eq]; omega)]
          exact e _ _ (by dsimp only; rw [if_neg hij]; rfl)
abbrev sp_lans : PSpec := sp_ans
def m_lans : Sm := { fn := [sp_spot], cn := [] }
theorem w_lans (g : Pc × List Nat) (ds : List D) (hl : ds.length = 2) (hp : sp_ans.pre g ds) : wpSs m_lans b__law_piece_answer (rho0 4 ds) (pt sp_ans g) := by
  obtain ⟨p, t⟩ := g
  obtain ⟨rfl, hp, ht, hn⟩ := hp
  have hp : p.ok := hp
  have ht : Tx t := ht
  have hn : t.length ≤ 100 := hn
  have e : ∀ r ρ, r = dT (ans p t) → (pt sp_ans (p, t)).rt r ρ := fun r ρ h => h
  rw [show rho0 4 [dPc p, D.str t] = [.val (dPc p), .val (.str t), .no, .no] from rfl]
  generalize pt sp_ans (p, t) = P at e ⊢
  cases p with
  | word w =>
    simp only [b__law_piece_answer, m_lans, dPc, at0, at1, eq_str, Ts.q_o_v, Ts.q_o_k, Ts.q_o_g, Ts.q_o_bin, Ts.q_o_neg, Ts.q_o_cmp, Ts.q_o_cmp2, Ts.q_o_and, Ts.q_o_or, Ts.q_o_not, Ts.q_o_ite, Ts.q_o_tup, Ts.q_o_lst, Ts.q_o_ix, Ts.q_o_sl, Ts.q_o_call, Ts.q_o_bi, Ts.q_o_mt, Ts.q_o_lc, Ts.q_o_lrng, Ts.q_o_dic, Ts.q_o_dce, Ts.q_o_ise, Ts.q_o_o, Ts.q_od_v, Ts.q_od_o, Ts.q_ods_n, Ts.q_ods_c, Ts.q_sv_v, Ts.q_sv_l, Ts.q_own_l, Ts.q_isl_l, Ts.q_vs_v, Ts.q_vs_l, Ts.q_e_v, Ts.q_e_k, Ts.q_e_g, Ts.q_e_bin, Ts.q_e_neg, Ts.q_e_cmp, Ts.q_e_cmp2, Ts.q_e_and, Ts.q_e_or, Ts.q_e_not, Ts.q_e_ite, Ts.q_e_tup, Ts.q_e_lst, Ts.q_e_ix, Ts.q_e_sl, Ts.q_e_call, Ts.q_e_bi, Ts.q_e_mt, Ts.q_e_dic, Ts.q_e_dce, Ts.q_e_lrng, Ts.q_e_ise, Ts.q_es_n, Ts.q_es_c, Ts.q_os_n, Ts.q_os_c, Ts.q_oe_n, Ts.q_oe_s, Ts.q_if_n, Ts.q_if_s, Ts.q_it_of, Ts.q_it_r1, Ts.q_it_r2, Ts.q_it_en, Ts.q_it_z2, Ts.q_it_z3, Ts.q_nt_l, Ts.q_nt_s, Ts.q_im_s, Ts.q_im_l, Ts.q_im_t, Ts.q_s_set, Ts.q_s_new, Ts.q_s_unp, Ts.q_s_app, Ts.q_s_seti, Ts.q_s_ret, Ts.q_s_retn, Ts.q_s_ife, Ts.q_s_ex, Ts.q_s_pas, Ts.q_s_brk, Ts.q_s_cnt, Ts.q_s_rse, Ts.q_s_tri, Ts.q_ss_n, Ts.q_ss_c, Ts.q_tg_x, Ts.q_tg_xs, Ts.q_st_n, Ts.q_st_c, Ts.q_b_add_i, Ts.q_b_add_s, Ts.q_b_add_l, Ts.q_b_add_t, Ts.q_b_sub_i, Ts.q_b_mul_i, Ts.q_b_mul_s, Ts.q_b_fdiv_i, Ts.q_b_mod_i, Ts.q_b_pow_i, Ts.q_c_eq_a, Ts.q_c_ne_a, Ts.q_c_lt_i, Ts.q_c_le_i, Ts.q_c_gt_i, Ts.q_c_ge_i, Ts.q_c_is_b, Ts.q_c_isn_b, Ts.q_c_in__s, Ts.q_c_nin_s, Ts.q_c_in__t_int, Ts.q_c_nin_t_int, Ts.q_c_in__t_str, Ts.q_c_nin_t_str, Ts.q_c_in__t_bl, Ts.q_c_nin_t_bl, Ts.q_c_is_n, Ts.q_c_isn_n, Ts.q_c_in__l, Ts.q_c_nin_l, Ts.q_nn_non, Ts.q_nn_bl, Ts.q_nn_int, Ts.q_nn_str, Ts.q_nn_tup, Ts.q_nn_lst, Ts.q_nn_dct, Ts.q_i_s, Ts.q_i_l, Ts.q_i_t, Ts.q_sl_s, Ts.q_sl_l, Ts.q_sl_t, Ts.q_f_len_s, Ts.q_f_len_l, Ts.q_f_len_t, Ts.q_f_abs, Ts.q_f_int_i, Ts.q_f_int_b, Ts.q_f_str, Ts.q_f_list_l, Ts.q_f_list_t, Ts.q_f_tup_l, Ts.q_f_tup_t, Ts.q_f_sum, Ts.q_f_all, Ts.q_f_any, Ts.q_f_max2, Ts.q_f_min2, Ts.q_f_maxl, Ts.q_f_minl, Ts.q_f_isi, Ts.q_m_join, Ts.q_m_upper, Ts.q_m_lower, Ts.q_m_islower, Ts.q_m_isupper, Ts.q_m_isdigit, Ts.q_m_isalnum, Ts.q_m_split, Ts.q_isstr, Ts.q_ni_non, Ts.q_is_str_non, Ts.q_is_tuple_non, Ts.q_is_int_non, Ts.q_is_bool_non, Ts.q_is_list_non, Ts.q_ni_bl, Ts.q_is_str_bl, Ts.q_is_tuple_bl, Ts.q_is_int_bl, Ts.q_is_bool_bl, Ts.q_is_list_bl, Ts.q_ni_int, Ts.q_is_str_int, Ts.q_is_tuple_int, Ts.q_is_int_int, Ts.q_is_bool_int, Ts.q_is_list_int, Ts.q_ni_str, Ts.q_is_str_str, Ts.q_is_tuple_str, Ts.q_is_int_str, Ts.q_is_bool_str, Ts.q_is_list_str, Ts.q_ni_tup, Ts.q_is_str_tup, Ts.q_is_tuple_tup, Ts.q_is_int_tup, Ts.q_is_bool_tup, Ts.q_is_list_tup, Ts.q_ni_lst, Ts.q_is_str_lst, Ts.q_is_tuple_lst, Ts.q_is_int_lst, Ts.q_is_bool_lst, Ts.q_is_list_lst, Ts.q_ni_dct, Ts.q_is_str_dct, Ts.q_is_tuple_dct, Ts.q_is_int_dct, Ts.q_is_bool_dct, Ts.q_is_list_dct, Ts.q_s_for, Ts.q_s_whl, Ts.q_e_lc, Option.some.injEq, exists_eq_left', exists_eq_left, D.bl.injEq, D.int.injEq, D.str.injEq, D.lst.injEq, D.tup.injEq, Ts.Sl.lst.injEq, List.map_cons, List.map_nil, List.length_cons, List.length_nil, List.getElem?_cons_zero, List.getElem?_cons_succ, List.set_cons_zero, List.set_cons_succ, and_true, true_and, exists_and_left, if_true, if_false, Bool.false_eq_true, reduceIte, reduceCtorEq, Bool.not_true, Bool.not_false]
    refine ⟨by decide, by decide, ?_⟩
    rw [if_pos (by decide)]
    exact e _ _ rfl
  | st d a b =>
    obtain ⟨hd, ha, hb⟩ := hp
    have e : ∀ r ρ, r = dT (ansSt d a b t) → P.rt r ρ := e
    unfold ansSt at e
    simp only [b__law_piece_answer, b__law_piece_answer_1, b__law_piece_answer_2, m_lans, dPc, at0, at1, at2, eq_str, x_spot, r_spot, forall_eq, false_implies, implies_true, Ts.q_o_v, Ts.q_o_k, Ts.q_o_g, Ts.q_o_bin, Ts.q_o_neg, Ts.q_o_cmp, Ts.q_o_cmp2, Ts.q_o_and, Ts.q_o_or, Ts.q_o_not, Ts.q_o_ite, Ts.q_o_tup, Ts.q_o_lst, Ts.q_o_ix, Ts.q_o_sl, Ts.q_o_call, Ts.q_o_bi, Ts.q_o_mt, Ts.q_o_lc, Ts.q_o_lrng, Ts.q_o_dic, Ts.q_o_dce, Ts.q_o_ise, Ts.q_o_o, Ts.q_od_v, Ts.q_od_o, Ts.q_ods_n, Ts.q_ods_c, Ts.q_sv_v, Ts.q_sv_l, Ts.q_own_l, Ts.q_isl_l, Ts.q_vs_v, Ts.q_vs_l, Ts.q_e_v, Ts.q_e_k, Ts.q_e_g, Ts.q_e_bin, Ts.q_e_neg, Ts.q_e_cmp, Ts.q_e_cmp2, Ts.q_e_and, Ts.q_e_or, Ts.q_e_not, Ts.q_e_ite, Ts.q_e_tup, Ts.q_e_lst, Ts.q_e_ix, Ts.q_e_sl, Ts.q_e_call, Ts.q_e_bi, Ts.q_e_mt, Ts.q_e_dic, Ts.q_e_dce, Ts.q_e_lrng, Ts.q_e_ise, Ts.q_es_n, Ts.q_es_c, Ts.q_os_n, Ts.q_os_c, Ts.q_oe_n, Ts.q_oe_s, Ts.q_if_n, Ts.q_if_s, Ts.q_it_of, Ts.q_it_r1, Ts.q_it_r2, Ts.q_it_en, Ts.q_it_z2, Ts.q_it_z3, Ts.q_nt_l, Ts.q_nt_s, Ts.q_im_s, Ts.q_im_l, Ts.q_im_t, Ts.q_s_set, Ts.q_s_new, Ts.q_s_unp, Ts.q_s_app, Ts.q_s_seti, Ts.q_s_ret, Ts.q_s_retn, Ts.q_s_ife, Ts.q_s_ex, Ts.q_s_pas, Ts.q_s_brk, Ts.q_s_cnt, Ts.q_s_rse, Ts.q_s_tri, Ts.q_ss_n, Ts.q_ss_c, Ts.q_tg_x, Ts.q_tg_xs, Ts.q_st_n, Ts.q_st_c, Ts.q_b_add_i, Ts.q_b_add_s, Ts.q_b_add_l, Ts.q_b_add_t, Ts.q_b_sub_i, Ts.q_b_mul_i, Ts.q_b_mul_s, Ts.q_b_fdiv_i, Ts.q_b_mod_i, Ts.q_b_pow_i, Ts.q_c_eq_a, Ts.q_c_ne_a, Ts.q_c_lt_i, Ts.q_c_le_i, Ts.q_c_gt_i, Ts.q_c_ge_i, Ts.q_c_is_b, Ts.q_c_isn_b, Ts.q_c_in__s, Ts.q_c_nin_s, Ts.q_c_in__t_int, Ts.q_c_nin_t_int, Ts.q_c_in__t_str, Ts.q_c_nin_t_str, Ts.q_c_in__t_bl, Ts.q_c_nin_t_bl, Ts.q_c_is_n, Ts.q_c_isn_n, Ts.q_c_in__l, Ts.q_c_nin_l, Ts.q_nn_non, Ts.q_nn_bl, Ts.q_nn_int, Ts.q_nn_str, Ts.q_nn_tup, Ts.q_nn_lst, Ts.q_nn_dct, Ts.q_i_s, Ts.q_i_l, Ts.q_i_t, Ts.q_sl_s, Ts.q_sl_l, Ts.q_sl_t, Ts.q_f_len_s, Ts.q_f_len_l, Ts.q_f_len_t, Ts.q_f_abs, Ts.q_f_int_i, Ts.q_f_int_b, Ts.q_f_str, Ts.q_f_list_l, Ts.q_f_list_t, Ts.q_f_tup_l, Ts.q_f_tup_t, Ts.q_f_sum, Ts.q_f_all, Ts.q_f_any, Ts.q_f_max2, Ts.q_f_min2, Ts.q_f_maxl, Ts.q_f_minl, Ts.q_f_isi, Ts.q_m_join, Ts.q_m_upper, Ts.q_m_lower, Ts.q_m_islower, Ts.q_m_isupper, Ts.q_m_isdigit, Ts.q_m_isalnum, Ts.q_m_split, Ts.q_isstr, Ts.q_ni_non, Ts.q_is_str_non, Ts.q_is_tuple_non, Ts.q_is_int_non, Ts.q_is_bool_non, Ts.q_is_list_non, Ts.q_ni_bl, Ts.q_is_str_bl, Ts.q_is_tuple_bl, Ts.q_is_int_bl, Ts.q_is_bool_bl, Ts.q_is_list_bl, Ts.q_ni_int, Ts.q_is_str_int, Ts.q_is_tuple_int, Ts.q_is_int_int, Ts.q_is_bool_int, Ts.q_is_list_int, Ts.q_ni_str, Ts.q_is_str_str, Ts.q_is_tuple_str, Ts.q_is_int_str, Ts.q_is_bool_str, Ts.q_is_list_str, Ts.q_ni_tup, Ts.q_is_str_tup, Ts.q_is_tuple_tup, Ts.q_is_int_tup, Ts.q_is_bool_tup, Ts.q_is_list_tup, Ts.q_ni_lst, Ts.q_is_str_lst, Ts.q_is_tuple_lst, Ts.q_is_int_lst, Ts.q_is_bool_lst, Ts.q_is_list_lst, Ts.q_ni_dct, Ts.q_is_str_dct, Ts.q_is_tuple_dct, Ts.q_is_int_dct, Ts.q_is_bool_dct, Ts.q_is_list_dct, Ts.q_s_for, Ts.q_s_whl, Ts.q_e_lc, Option.some.injEq, exists_eq_left', exists_eq_left, D.bl.injEq, D.int.injEq, D.str.injEq, D.lst.injEq, D.tup.injEq, Ts.Sl.lst.injEq, List.map_cons, List.map_nil, List.length_cons, List.length_nil, List.getElem?_cons_zero, List.getElem?_cons_succ, List.set_cons_zero, List.set_cons_succ, and_true, true_and, exists_and_left, if_true, if_false, Bool.false_eq_true, reduceIte, reduceCtorEq, Bool.not_true, Bool.not_false]
    refine ⟨(deed_ok d hd).1, by decide, ?_⟩
    rw [if_neg (by simp only [beq_iff_eq]; exact (deed_ok d hd).2)]
    refine ⟨rfl, (a, t), ⟨rfl, ha, ht, hn⟩, rfl, (b, t), ⟨rfl, hb, ht, hn⟩, ?_⟩
    dsimp only
    simp only [b__law_piece_answer_3, m_lans, Ts.q_o_v, Ts.q_o_k, Ts.q_o_g, Ts.q_o_bin, Ts.q_o_neg, Ts.q_o_cmp, Ts.q_o_cmp2, Ts.q_o_and, Ts.q_o_or, Ts.q_o_not, Ts.q_o_ite, Ts.q_o_tup, Ts.q_o_lst, Ts.q_o_ix, Ts.q_o_sl, Ts.q_o_call, Ts.q_o_bi, Ts.q_o_mt, Ts.q_o_lc, Ts.q_o_lrng, Ts.q_o_dic, Ts.q_o_dce, Ts.q_o_ise, Ts.q_o_o, Ts.q_od_v, Ts.q_od_o, Ts.q_ods_n, Ts.q_ods_c, Ts.q_sv_v, Ts.q_sv_l, Ts.q_own_l, Ts.q_isl_l, Ts.q_vs_v, Ts.q_vs_l, Ts.q_e_v, Ts.q_e_k, Ts.q_e_g, Ts.q_e_bin, Ts.q_e_neg, Ts.q_e_cmp, Ts.q_e_cmp2, Ts.q_e_and, Ts.q_e_or, Ts.q_e_not, Ts.q_e_ite, Ts.q_e_tup, Ts.q_e_lst, Ts.q_e_ix, Ts.q_e_sl, Ts.q_e_call, Ts.q_e_bi, Ts.q_e_mt, Ts.q_e_dic, Ts.q_e_dce, Ts.q_e_lrng, Ts.q_e_ise, Ts.q_es_n, Ts.q_es_c, Ts.q_os_n, Ts.q_os_c, Ts.q_oe_n, Ts.q_oe_s, Ts.q_if_n, Ts.q_if_s, Ts.q_it_of, Ts.q_it_r1, Ts.q_it_r2, Ts.q_it_en, Ts.q_it_z2, Ts.q_it_z3, Ts.q_nt_l, Ts.q_nt_s, Ts.q_im_s, Ts.q_im_l, Ts.q_im_t, Ts.q_s_set, Ts.q_s_new, Ts.q_s_unp, Ts.q_s_app, Ts.q_s_seti, Ts.q_s_ret, Ts.q_s_retn, Ts.q_s_ife, Ts.q_s_ex, Ts.q_s_pas, Ts.q_s_brk, Ts.q_s_cnt, Ts.q_s_rse, Ts.q_s_tri, Ts.q_ss_n, Ts.q_ss_c, Ts.q_tg_x, Ts.q_tg_xs, Ts.q_st_n, Ts.q_st_c, Ts.q_b_add_i, Ts.q_b_add_s, Ts.q_b_add_l, Ts.q_b_add_t, Ts.q_b_sub_i, Ts.q_b_mul_i, Ts.q_b_mul_s, Ts.q_b_fdiv_i, Ts.q_b_mod_i, Ts.q_b_pow_i, Ts.q_c_eq_a, Ts.q_c_ne_a, Ts.q_c_lt_i, Ts.q_c_le_i, Ts.q_c_gt_i, Ts.q_c_ge_i, Ts.q_c_is_b, Ts.q_c_isn_b, Ts.q_c_in__s, Ts.q_c_nin_s, Ts.q_c_in__t_int, Ts.q_c_nin_t_int, Ts.q_c_in__t_str, Ts.q_c_nin_t_str, Ts.q_c_in__t_bl, Ts.q_c_nin_t_bl, Ts.q_c_is_n, Ts.q_c_isn_n, Ts.q_c_in__l, Ts.q_c_nin_l, Ts.q_nn_non, Ts.q_nn_bl, Ts.q_nn_int, Ts.q_nn_str, Ts.q_nn_tup, Ts.q_nn_lst, Ts.q_nn_dct, Ts.q_i_s, Ts.q_i_l, Ts.q_i_t, Ts.q_sl_s, Ts.q_sl_l, Ts.q_sl_t, Ts.q_f_len_s, Ts.q_f_len_l, Ts.q_f_len_t, Ts.q_f_abs, Ts.q_f_int_i, Ts.q_f_int_b, Ts.q_f_str, Ts.q_f_list_l, Ts.q_f_list_t, Ts.q_f_tup_l, Ts.q_f_tup_t, Ts.q_f_sum, Ts.q_f_all, Ts.q_f_any, Ts.q_f_max2, Ts.q_f_min2, Ts.q_f_maxl, Ts.q_f_minl, Ts.q_f_isi, Ts.q_m_join, Ts.q_m_upper, Ts.q_m_lower, Ts.q_m_islower, Ts.q_m_isupper, Ts.q_m_isdigit, Ts.q_m_isalnum, Ts.q_m_split, Ts.q_isstr, Ts.q_ni_non, Ts.q_is_str_non, Ts.q_is_tuple_non, Ts.q_is_int_non, Ts.q_is_bool_non, Ts.q_is_list_non, Ts.q_ni_bl, Ts.q_is_str_bl, Ts.q_is_tuple_bl, Ts.q_is_int_bl, Ts.q_is_bool_bl, Ts.q_is_list_bl, Ts.q_ni_int, Ts.q_is_str_int, Ts.q_is_tuple_int, Ts.q_is_int_int, Ts.q_is_bool_int, Ts.q_is_list_int, Ts.q_ni_str, Ts.q_is_str_str, Ts.q_is_tuple_str, Ts.q_is_int_str, Ts.q_is_bool_str, Ts.q_is_list_str, Ts.q_ni_tup, Ts.q_is_str_tup, Ts.q_is_tuple_tup, Ts.q_is_int_tup, Ts.q_is_bool_tup, Ts.q_is_list_tup, Ts.q_ni_lst, Ts.q_is_str_lst, Ts.q_is_tuple_lst, Ts.q_is_int_lst, Ts.q_is_bool_lst, Ts.q_is_list_lst, Ts.q_ni_dct, Ts.q_is_str_dct, Ts.q_is_tuple_dct, Ts.q_is_int_dct, Ts.q_is_bool_dct, Ts.q_is_list_dct, Ts.q_s_for, Ts.q_s_whl, Ts.q_e_lc, Option.some.injEq, exists_eq_left', exists_eq_left, D.bl.injEq, D.int.injEq, D.str.injEq, D.lst.injEq, D.tup.injEq, Ts.Sl.lst.injEq, List.map_cons, List.map_nil, List.length_cons, List.length_nil, List.getElem?_cons_zero, List.getElem?_cons_succ, List.set_cons_zero, List.set_cons_succ, and_true, true_and, exists_and_left, if_true, if_false, Bool.false_eq_true, reduceIte, reduceCtorEq, Bool.not_true, Bool.not_false]
    cases ea : spotT a t with
    | none =>
      simp only [dO, Ts.q_o_v, Ts.q_o_k, Ts.q_o_g, Ts.q_o_bin, Ts.q_o_neg, Ts.q_o_cmp, Ts.q_o_cmp2, Ts.q_o_and, Ts.q_o_or, Ts.q_o_not, Ts.q_o_ite, Ts.q_o_tup, Ts.q_o_lst, Ts.q_o_ix, Ts.q_o_sl, Ts.q_o_call, Ts.q_o_bi, Ts.q_o_mt, Ts.q_o_lc, Ts.q_o_lrng, Ts.q_o_dic, Ts.q_o_dce, Ts.q_o_ise, Ts.q_o_o, Ts.q_od_v, Ts.q_od_o, Ts.q_ods_n, Ts.q_ods_c, Ts.q_sv_v, Ts.q_sv_l, Ts.q_own_l, Ts.q_isl_l, Ts.q_vs_v, Ts.q_vs_l, Ts.q_e_v, Ts.q_e_k, Ts.q_e_g, Ts.q_e_bin, Ts.q_e_neg, Ts.q_e_cmp, Ts.q_e_cmp2, Ts.q_e_and, Ts.q_e_or, Ts.q_e_not, Ts.q_e_ite, Ts.q_e_tup, Ts.q_e_lst, Ts.q_e_ix, Ts.q_e_sl, Ts.q_e_call, Ts.q_e_bi, Ts.q_e_mt, Ts.q_e_dic, Ts.q_e_dce, Ts.q_e_lrng, Ts.q_e_ise, Ts.q_es_n, Ts.q_es_c, Ts.q_os_n, Ts.q_os_c, Ts.q_oe_n, Ts.q_oe_s, Ts.q_if_n, Ts.q_if_s, Ts.q_it_of, Ts.q_it_r1, Ts.q_it_r2, Ts.q_it_en, Ts.q_it_z2, Ts.q_it_z3, Ts.q_nt_l, Ts.q_nt_s, Ts.q_im_s, Ts.q_im_l, Ts.q_im_t, Ts.q_s_set, Ts.q_s_new, Ts.q_s_unp, Ts.q_s_app, Ts.q_s_seti, Ts.q_s_ret, Ts.q_s_retn, Ts.q_s_ife, Ts.q_s_ex, Ts.q_s_pas, Ts.q_s_brk, Ts.q_s_cnt, Ts.q_s_rse, Ts.q_s_tri, Ts.q_ss_n, Ts.q_ss_c, Ts.q_tg_x, Ts.q_tg_xs, Ts.q_st_n, Ts.q_st_c, Ts.q_b_add_i, Ts.q_b_add_s, Ts.q_b_add_l, Ts.q_b_add_t, Ts.q_b_sub_i, Ts.q_b_mul_i, Ts.q_b_mul_s, Ts.q_b_fdiv_i, Ts.q_b_mod_i, Ts.q_b_pow_i, Ts.q_c_eq_a, Ts.q_c_ne_a, Ts.q_c_lt_i, Ts.q_c_le_i, Ts.q_c_gt_i, Ts.q_c_ge_i, Ts.q_c_is_b, Ts.q_c_isn_b, Ts.q_c_in__s, Ts.q_c_nin_s, Ts.q_c_in__t_int, Ts.q_c_nin_t_int, Ts.q_c_in__t_str, Ts.q_c_nin_t_str, Ts.q_c_in__t_bl, Ts.q_c_nin_t_bl, Ts.q_c_is_n, Ts.q_c_isn_n, Ts.q_c_in__l, Ts.q_c_nin_l, Ts.q_nn_non, Ts.q_nn_bl, Ts.q_nn_int, Ts.q_nn_str, Ts.q_nn_tup, Ts.q_nn_lst, Ts.q_nn_dct, Ts.q_i_s, Ts.q_i_l, Ts.q_i_t, Ts.q_sl_s, Ts.q_sl_l, Ts.q_sl_t, Ts.q_f_len_s, Ts.q_f_len_l, Ts.q_f_len_t, Ts.q_f_abs, Ts.q_f_int_i, Ts.q_f_int_b, Ts.q_f_str, Ts.q_f_list_l, Ts.q_f_list_t, Ts.q_f_tup_l, Ts.q_f_tup_t, Ts.q_f_sum, Ts.q_f_all, Ts.q_f_any, Ts.q_f_max2, Ts.q_f_min2, Ts.q_f_maxl, Ts.q_f_minl, Ts.q_f_isi, Ts.q_m_join, Ts.q_m_upper, Ts.q_m_lower, Ts.q_m_islower, Ts.q_m_isupper, Ts.q_m_isdigit, Ts.q_m_isalnum, Ts.q_m_split, Ts.q_isstr, Ts.q_ni_non, Ts.q_is_str_non, Ts.q_is_tuple_non, Ts.q_is_int_non, Ts.q_is_bool_non, Ts.q_is_list_non, Ts.q_ni_bl, Ts.q_is_str_bl, Ts.q_is_tuple_bl, Ts.q_is_int_bl, Ts.q_is_bool_bl, Ts.q_is_list_bl, Ts.q_ni_int, Ts.q_is_str_int, Ts.q_is_tuple_int, Ts.q_is_int_int, Ts.q_is_bool_int, Ts.q_is_list_int, Ts.q_ni_str, Ts.q_is_str_str, Ts.q_is_tuple_str, Ts.q_is_int_str, Ts.q_is_bool_str, Ts.q_is_list_str, Ts.q_ni_tup, Ts.q_is_str_tup, Ts.q_is_tuple_tup, Ts.q_is_int_tup, Ts.q_is_bool_tup, Ts.q_is_list_tup, Ts.q_ni_lst, Ts.q_is_str_lst, Ts.q_is_tuple_lst, Ts.q_is_int_lst, Ts.q_is_bool_lst, Ts.q_is_list_lst, Ts.q_ni_dct, Ts.q_is_str_dct, Ts.q_is_tuple_dct, Ts.q_is_int_dct, Ts.q_is_bool_dct, Ts.q_is_list_dct, Ts.q_s_for, Ts.q_s_whl, Ts.q_e_lc, Option.some.injEq, exists_eq_left', exists_eq_left, D.bl.injEq, D.int.injEq, D.str.injEq, D.lst.injEq, D.tup.injEq, Ts.Sl.lst.injEq, List.map_cons, List.map_nil, List.length_cons, List.length_nil, List.getElem?_cons_zero, List.getElem?_cons_succ, List.set_cons_zero, List.set_cons_succ, and_true, true_and, exists_and_left, if_true, if_false, Bool.false_eq_true, reduceIte, reduceCtorEq, Bool.not_true, Bool.not_false]
      rw [ea] at e
      exact e _ _ rfl
    | some i =>
      simp only [dO, Ts.q_o_v, Ts.q_o_k, Ts.q_o_g, Ts.q_o_bin, Ts.q_o_neg, Ts.q_o_cmp, Ts.q_o_cmp2, Ts.q_o_and, Ts.q_o_or, Ts.q_o_not, Ts.q_o_ite, Ts.q_o_tup, Ts.q_o_lst, Ts.q_o_ix, Ts.q_o_sl, Ts.q_o_call, Ts.q_o_bi, Ts.q_o_mt, Ts.q_o_lc, Ts.q_o_lrng, Ts.q_o_dic, Ts.q_o_dce, Ts.q_o_ise, Ts.q_o_o, Ts.q_od_v, Ts.q_od_o, Ts.q_ods_n, Ts.q_ods_c, Ts.q_sv_v, Ts.q_sv_l, Ts.q_own_l, Ts.q_isl_l, Ts.q_vs_v, Ts.q_vs_l, Ts.q_e_v, Ts.q_e_k, Ts.q_e_g, Ts.q_e_bin, Ts.q_e_neg, Ts.q_e_cmp, Ts.q_e_cmp2, Ts.q_e_and, Ts.q_e_or, Ts.q_e_not, Ts.q_e_ite, Ts.q_e_tup, Ts.q_e_lst, Ts.q_e_ix, Ts.q_e_sl, Ts.q_e_call, Ts.q_e_bi, Ts.q_e_mt, Ts.q_e_dic, Ts.q_e_dce, Ts.q_e_lrng, Ts.q_e_ise, Ts.q_es_n, Ts.q_es_c, Ts.q_os_n, Ts.q_os_c, Ts.q_oe_n, Ts.q_oe_s, Ts.q_if_n, Ts.q_if_s, Ts.q_it_of, Ts.q_it_r1, Ts.q_it_r2, Ts.q_it_en, Ts.q_it_z2, Ts.q_it_z3, Ts.q_nt_l, Ts.q_nt_s, Ts.q_im_s, Ts.q_im_l, Ts.q_im_t, Ts.q_s_set, Ts.q_s_new, Ts.q_s_unp, Ts.q_s_app, Ts.q_s_seti, Ts.q_s_ret, Ts.q_s_retn, Ts.q_s_ife, Ts.q_s_ex, Ts.q_s_pas, Ts.q_s_brk, Ts.q_s_cnt, Ts.q_s_rse, Ts.q_s_tri, Ts.q_ss_n, Ts.q_ss_c, Ts.q_tg_x, Ts.q_tg_xs, Ts.q_st_n, Ts.q_st_c, Ts.q_b_add_i, Ts.q_b_add_s, Ts.q_b_add_l, Ts.q_b_add_t, Ts.q_b_sub_i, Ts.q_b_mul_i, Ts.q_b_mul_s, Ts.q_b_fdiv_i, Ts.q_b_mod_i, Ts.q_b_pow_i, Ts.q_c_eq_a, Ts.q_c_ne_a, Ts.q_c_lt_i, Ts.q_c_le_i, Ts.q_c_gt_i, Ts.q_c_ge_i, Ts.q_c_is_b, Ts.q_c_isn_b, Ts.q_c_in__s, Ts.q_c_nin_s, Ts.q_c_in__t_int, Ts.q_c_nin_t_int, Ts.q_c_in__t_str, Ts.q_c_nin_t_str, Ts.q_c_in__t_bl, Ts.q_c_nin_t_bl, Ts.q_c_is_n, Ts.q_c_isn_n, Ts.q_c_in__l, Ts.q_c_nin_l, Ts.q_nn_non, Ts.q_nn_bl, Ts.q_nn_int, Ts.q_nn_str, Ts.q_nn_tup, Ts.q_nn_lst, Ts.q_nn_dct, Ts.q_i_s, Ts.q_i_l, Ts.q_i_t, Ts.q_sl_s, Ts.q_sl_l, Ts.q_sl_t, Ts.q_f_len_s, Ts.q_f_len_l, Ts.q_f_len_t, Ts.q_f_abs, Ts.q_f_int_i, Ts.q_f_int_b, Ts.q_f_str, Ts.q_f_list_l, Ts.q_f_list_t, Ts.q_f_tup_l, Ts.q_f_tup_t, Ts.q_f_sum, Ts.q_f_all, Ts.q_f_any, Ts.q_f_max2, Ts.q_f_min2, Ts.q_f_maxl, Ts.q_f_minl, Ts.q_f_isi, Ts.q_m_join, Ts.q_m_upper, Ts.q_m_lower, Ts.q_m_islower, Ts.q_m_isupper, Ts.q_m_isdigit, Ts.q_m_isalnum, Ts.q_m_split, Ts.q_isstr, Ts.q_ni_non, Ts.q_is_str_non, Ts.q_is_tuple_non, Ts.q_is_int_non, Ts.q_is_bool_non, Ts.q_is_list_non, Ts.q_ni_bl, Ts.q_is_str_bl, Ts.q_is_tuple_bl, Ts.q_is_int_bl, Ts.q_is_bool_bl, Ts.q_is_list_bl, Ts.q_ni_int, Ts.q_is_str_int, Ts.q_is_tuple_int, Ts.q_is_int_int, Ts.q_is_bool_int, Ts.q_is_list_int, Ts.q_ni_str, Ts.q_is_str_str, Ts.q_is_tuple_str, Ts.q_is_int_str, Ts.q_is_bool_str, Ts.q_is_list_str, Ts.q_ni_tup, Ts.q_is_str_tup, Ts.q_is_tuple_tup, Ts.q_is_int_tup, Ts.q_is_bool_tup, Ts.q_is_list_tup, Ts.q_ni_lst, Ts.q_is_str_lst, Ts.q_is_tuple_lst, Ts.q_is_int_lst, Ts.q_is_bool_lst, Ts.q_is_list_lst, Ts.q_ni_dct, Ts.q_is_str_dct, Ts.q_is_tuple_dct, Ts.q_is_int_dct, Ts.q_is_bool_dct, Ts.q_is_list_dct, Ts.q_s_for, Ts.q_s_whl, Ts.q_e_lc, Option.some.injEq, exists_eq_left', exists_eq_left, D.bl.injEq, D.int.injEq, D.str.injEq, D.lst.injEq, D.tup.injEq, Ts.Sl.lst.injEq, List.map_cons, List.map_nil, List.length_cons, List.length_nil, List.getElem?_cons_zero, List.getElem?_cons_succ, List.set_cons_zero, List.set_cons_succ, and_true, true_and, exists_and_left, if_true, if_false, Bool.false_eq_true, reduceIte, reduceCtorEq, Bool.not_true, Bool.not_false]
      cases eb : spotT b t with
      | none =>
        simp only [Ts.q_o_v, Ts.q_o_k, Ts.q_o_g, Ts.q_o_bin, Ts.q_o_neg, Ts.q_o_cmp, Ts.q_o_cmp2, Ts.q_o_and, Ts.q_o_or, Ts.q_o_not, Ts.q_o_ite, Ts.q_o_tup, Ts.q_o_lst, Ts.q_o_ix, Ts.q_o_sl, Ts.q_o_call, Ts.q_o_bi, Ts.q_o_mt, Ts.q_o_lc, Ts.q_o_lrng, Ts.q_o_dic, Ts.q_o_dce, Ts.q_o_ise, Ts.q_o_o, Ts.q_od_v, Ts.q_od_o, Ts.q_ods_n, Ts.q_ods_c, Ts.q_sv_v, Ts.q_sv_l, Ts.q_own_l, Ts.q_isl_l, Ts.q_vs_v, Ts.q_vs_l, Ts.q_e_v, Ts.q_e_k, Ts.q_e_g, Ts.q_e_bin, Ts.q_e_neg, Ts.q_e_cmp, Ts.q_e_cmp2, Ts.q_e_and, Ts.q_e_or, Ts.q_e_not, Ts.q_e_ite, Ts.q_e_tup, Ts.q_e_lst, Ts.q_e_ix, Ts.q_e_sl, Ts.q_e_call, Ts.q_e_bi, Ts.q_e_mt, Ts.q_e_dic, Ts.q_e_dce, Ts.q_e_lrng, Ts.q_e_ise, Ts.q_es_n, Ts.q_es_c, Ts.q_os_n, Ts.q_os_c, Ts.q_oe_n, Ts.q_oe_s, Ts.q_if_n, Ts.q_if_s, Ts.q_it_of, Ts.q_it_r1, Ts.q_it_r2, Ts.q_it_en, Ts.q_it_z2, Ts.q_it_z3, Ts.q_nt_l, Ts.q_nt_s, Ts.q_im_s, Ts.q_im_l, Ts.q_im_t, Ts.q_s_set, Ts.q_s_new, Ts.q_s_unp, Ts.q_s_app, Ts.q_s_seti, Ts.q_s_ret, Ts.q_s_retn, Ts.q_s_ife, Ts.q_s_ex, Ts.q_s_pas, Ts.q_s_brk, Ts.q_s_cnt, Ts.q_s_rse, Ts.q_s_tri, Ts.q_ss_n, Ts.q_ss_c, Ts.q_tg_x, Ts.q_tg_xs, Ts.q_st_n, Ts.q_st_c, Ts.q_b_add_i, Ts.q_b_add_s, Ts.q_b_add_l, Ts.q_b_add_t, Ts.q_b_sub_i, Ts.q_b_mul_i, Ts.q_b_mul_s, Ts.q_b_fdiv_i, Ts.q_b_mod_i, Ts.q_b_pow_i, Ts.q_c_eq_a, Ts.q_c_ne_a, Ts.q_c_lt_i, Ts.q_c_le_i, Ts.q_c_gt_i, Ts.q_c_ge_i, Ts.q_c_is_b, Ts.q_c_isn_b, Ts.q_c_in__s, Ts.q_c_nin_s, Ts.q_c_in__t_int, Ts.q_c_nin_t_int, Ts.q_c_in__t_str, Ts.q_c_nin_t_str, Ts.q_c_in__t_bl, Ts.q_c_nin_t_bl, Ts.q_c_is_n, Ts.q_c_isn_n, Ts.q_c_in__l, Ts.q_c_nin_l, Ts.q_nn_non, Ts.q_nn_bl, Ts.q_nn_int, Ts.q_nn_str, Ts.q_nn_tup, Ts.q_nn_lst, Ts.q_nn_dct, Ts.q_i_s, Ts.q_i_l, Ts.q_i_t, Ts.q_sl_s, Ts.q_sl_l, Ts.q_sl_t, Ts.q_f_len_s, Ts.q_f_len_l, Ts.q_f_len_t, Ts.q_f_abs, Ts.q_f_int_i, Ts.q_f_int_b, Ts.q_f_str, Ts.q_f_list_l, Ts.q_f_list_t, Ts.q_f_tup_l, Ts.q_f_tup_t, Ts.q_f_sum, Ts.q_f_all, Ts.q_f_any, Ts.q_f_max2, Ts.q_f_min2, Ts.q_f_maxl, Ts.q_f_minl, Ts.q_f_isi, Ts.q_m_join, Ts.q_m_upper, Ts.q_m_lower, Ts.q_m_islower, Ts.q_m_isupper, Ts.q_m_isdigit, Ts.q_m_isalnum, Ts.q_m_split, Ts.q_isstr, Ts.q_ni_non, Ts.q_is_str_non, Ts.q_is_tuple_non, Ts.q_is_int_non, Ts.q_is_bool_non, Ts.q_is_list_non, Ts.q_ni_bl, Ts.q_is_str_bl, Ts.q_is_tuple_bl, Ts.q_is_int_bl, Ts.q_is_bool_bl, Ts.q_is_list_bl, Ts.q_ni_int, Ts.q_is_str_int, Ts.q_is_tuple_int, Ts.q_is_int_int, Ts.q_is_bool_int, Ts.q_is_list_int, Ts.q_ni_str, Ts.q_is_str_str, Ts.q_is_tuple_str, Ts.q_is_int_str, Ts.q_is_bool_str, Ts.q_is_list_str, Ts.q_ni_tup, Ts.q_is_str_tup, Ts.q_is_tuple_tup, Ts.q_is_int_tup, Ts.q_is_bool_tup, Ts.q_is_list_tup, Ts.q_ni_lst, Ts.q_is_str_lst, Ts.q_is_tuple_lst, Ts.q_is_int_lst, Ts.q_is_bool_lst, Ts.q_is_list_lst, Ts.q_ni_dct, Ts.q_is_str_dct, Ts.q_is_tuple_dct, Ts.q_is_int_dct, Ts.q_is_bool_dct, Ts.q_is_list_dct, Ts.q_s_for, Ts.q_s_whl, Ts.q_e_lc, Option.some.injEq, exists_eq_left', exists_eq_left, D.bl.injEq, D.int.injEq, D.str.injEq, D.lst.injEq, D.tup.injEq, Ts.Sl.lst.injEq, List.map_cons, List.map_nil, List.length_cons, List.length_nil, List.getElem?_cons_zero, List.getElem?_cons_succ, List.set_cons_zero, List.set_cons_succ, and_true, true_and, exists_and_left, if_true, if_false, Bool.false_eq_true, reduceIte, reduceCtorEq, Bool.not_true, Bool.not_false]
        rw [ea, eb] at e
        exact e _ _ rfl
      | some j =>
        simp only [Ts.q_o_v, Ts.q_o_k, Ts.q_o_g, Ts.q_o_bin, Ts.q_o_neg, Ts.q_o_cmp, Ts.q_o_cmp2, Ts.q_o_and, Ts.q_o_or, Ts.q_o_not, Ts.q_o_ite, Ts.q_o_tup, Ts.q_o_lst, Ts.q_o_ix, Ts.q_o_sl, Ts.q_o_call, Ts.q_o_bi, Ts.q_o_mt, Ts.q_o_lc, Ts.q_o_lrng, Ts.q_o_dic, Ts.q_o_dce, Ts.q_o_ise, Ts.q_o_o, Ts.q_od_v, Ts.q_od_o, Ts.q_ods_n, Ts.q_ods_c, Ts.q_sv_v, Ts.q_sv_l, Ts.q_own_l, Ts.q_isl_l, Ts.q_vs_v, Ts.q_vs_l, Ts.q_e_v, Ts.q_e_k, Ts.q_e_g, Ts.q_e_bin, Ts.q_e_neg, Ts.q_e_cmp, Ts.q_e_cmp2, Ts.q_e_and, Ts.q_e_or, Ts.q_e_not, Ts.q_e_ite, Ts.q_e_tup, Ts.q_e_lst, Ts.q_e_ix, Ts.q_e_sl, Ts.q_e_call, Ts.q_e_bi, Ts.q_e_mt, Ts.q_e_dic, Ts.q_e_dce, Ts.q_e_lrng, Ts.q_e_ise, Ts.q_es_n, Ts.q_es_c, Ts.q_os_n, Ts.q_os_c, Ts.q_oe_n, Ts.q_oe_s, Ts.q_if_n, Ts.q_if_s, Ts.q_it_of, Ts.q_it_r1, Ts.q_it_r2, Ts.q_it_en, Ts.q_it_z2, Ts.q_it_z3, Ts.q_nt_l, Ts.q_nt_s, Ts.q_im_s, Ts.q_im_l, Ts.q_im_t, Ts.q_s_set, Ts.q_s_new, Ts.q_s_unp, Ts.q_s_app, Ts.q_s_seti, Ts.q_s_ret, Ts.q_s_retn, Ts.q_s_ife, Ts.q_s_ex, Ts.q_s_pas, Ts.q_s_brk, Ts.q_s_cnt, Ts.q_s_rse, Ts.q_s_tri, Ts.q_ss_n, Ts.q_ss_c, Ts.q_tg_x, Ts.q_tg_xs, Ts.q_st_n, Ts.q_st_c, Ts.q_b_add_i, Ts.q_b_add_s, Ts.q_b_add_l, Ts.q_b_add_t, Ts.q_b_sub_i, Ts.q_b_mul_i, Ts.q_b_mul_s, Ts.q_b_fdiv_i, Ts.q_b_mod_i, Ts.q_b_pow_i, Ts.q_c_eq_a, Ts.q_c_ne_a, Ts.q_c_lt_i, Ts.q_c_le_i, Ts.q_c_gt_i, Ts.q_c_ge_i, Ts.q_c_is_b, Ts.q_c_isn_b, Ts.q_c_in__s, Ts.q_c_nin_s, Ts.q_c_in__t_int, Ts.q_c_nin_t_int, Ts.q_c_in__t_str, Ts.q_c_nin_t_str, Ts.q_c_in__t_bl, Ts.q_c_nin_t_bl, Ts.q_c_is_n, Ts.q_c_isn_n, Ts.q_c_in__l, Ts.q_c_nin_l, Ts.q_nn_non, Ts.q_nn_bl, Ts.q_nn_int, Ts.q_nn_str, Ts.q_nn_tup, Ts.q_nn_lst, Ts.q_nn_dct, Ts.q_i_s, Ts.q_i_l, Ts.q_i_t, Ts.q_sl_s, Ts.q_sl_l, Ts.q_sl_t, Ts.q_f_len_s, Ts.q_f_len_l, Ts.q_f_len_t, Ts.q_f_abs, Ts.q_f_int_i, Ts.q_f_int_b, Ts.q_f_str, Ts.q_f_list_l, Ts.q_f_list_t, Ts.q_f_tup_l, Ts.q_f_tup_t, Ts.q_f_sum, Ts.q_f_all, Ts.q_f_any, Ts.q_f_max2, Ts.q_f_min2, Ts.q_f_maxl, Ts.q_f_minl, Ts.q_f_isi, Ts.q_m_join, Ts.q_m_upper, Ts.q_m_lower, Ts.q_m_islower, Ts.q_m_isupper, Ts.q_m_isdigit, Ts.q_m_isalnum, Ts.q_m_split, Ts.q_isstr, Ts.q_ni_non, Ts.q_is_str_non, Ts.q_is_tuple_non, Ts.q_is_int_non, Ts.q_is_bool_non, Ts.q_is_list_non, Ts.q_ni_bl, Ts.q_is_str_bl, Ts.q_is_tuple_bl, Ts.q_is_int_bl, Ts.q_is_bool_bl, Ts.q_is_list_bl, Ts.q_ni_int, Ts.q_is_str_int, Ts.q_is_tuple_int, Ts.q_is_int_int, Ts.q_is_bool_int, Ts.q_is_list_int, Ts.q_ni_str, Ts.q_is_str_str, Ts.q_is_tuple_str, Ts.q_is_int_str, Ts.q_is_bool_str, Ts.q_is_list_str, Ts.q_ni_tup, Ts.q_is_str_tup, Ts.q_is_tuple_tup, Ts.q_is_int_tup, Ts.q_is_bool_tup, Ts.q_is_list_tup, Ts.q_ni_lst, Ts.q_is_str_lst, Ts.q_is_tuple_lst, Ts.q_is_int_lst, Ts.q_is_bool_lst, Ts.q_is_list_lst, Ts.q_ni_dct, Ts.q_is_str_dct, Ts.q_is_tuple_dct, Ts.q_is_int_dct, Ts.q_is_bool_dct, Ts.q_is_list_dct, Ts.q_s_for, Ts.q_s_whl, Ts.q_e_lc, Option.some.injEq, exists_eq_left', exists_eq_left, D.bl.injEq, D.int.injEq, D.str.injEq, D.lst.injEq, D.tup.injEq, Ts.Sl.lst.injEq, List.map_cons, List.map_nil, List.length_cons, List.length_nil, List.getElem?_cons_zero, List.getElem?_cons_succ, List.set_cons_zero, List.set_cons_succ, and_true, true_and, exists_and_left, if_true, if_false, Bool.false_eq_true, reduceIte, reduceCtorEq, Bool.not_true, Bool.not_false]
        rw [ea, eb] at e
        by_cases hij : i < j
        · rw [if_neg (by simp only [decide_eq_true_eq]; omega)]
          have hj := spot_le eb
          have hc := cut_mid t i j hj (by omega)
          have hl : ((t.drop i).take (j - i)).length ≤ 100 := by rw [List.length_take, List.length_drop]; omega
          have hx : Tx ((t.drop i).take (j - i)) := (ht.drop _).take _
          dsimp only at e
          rw [if_pos hij] at e
          have line : t.length ≤ line := by show t.length ≤ 16777216; omega
          unfold chg at e
          simp only [b__law_piece_answer_4, b__law_piece_answer_5, b__law_piece_answer_6, dPc, at0, eq_str, hc, Ts.q_o_v, Ts.q_o_k, Ts.q_o_g, Ts.q_o_bin, Ts.q_o_neg, Ts.q_o_cmp, Ts.q_o_cmp2, Ts.q_o_and, Ts.q_o_or, Ts.q_o_not, Ts.q_o_ite, Ts.q_o_tup, Ts.q_o_lst, Ts.q_o_ix, Ts.q_o_sl, Ts.q_o_call, Ts.q_o_bi, Ts.q_o_mt, Ts.q_o_lc, Ts.q_o_lrng, Ts.q_o_dic, Ts.q_o_dce, Ts.q_o_ise, Ts.q_o_o, Ts.q_od_v, Ts.q_od_o, Ts.q_ods_n, Ts.q_ods_c, Ts.q_sv_v, Ts.q_sv_l, Ts.q_own_l, Ts.q_isl_l, Ts.q_vs_v, Ts.q_vs_l, Ts.q_e_v, Ts.q_e_k, Ts.q_e_g, Ts.q_e_bin, Ts.q_e_neg, Ts.q_e_cmp, Ts.q_e_cmp2, Ts.q_e_and, Ts.q_e_or, Ts.q_e_not, Ts.q_e_ite, Ts.q_e_tup, Ts.q_e_lst, Ts.q_e_ix, Ts.q_e_sl, Ts.q_e_call, Ts.q_e_bi, Ts.q_e_mt, Ts.q_e_dic, Ts.q_e_dce, Ts.q_e_lrng, Ts.q_e_ise, Ts.q_es_n, Ts.q_es_c, Ts.q_os_n, Ts.q_os_c, Ts.q_oe_n, Ts.q_oe_s, Ts.q_if_n, Ts.q_if_s, Ts.q_it_of, Ts.q_it_r1, Ts.q_it_r2, Ts.q_it_en, Ts.q_it_z2, Ts.q_it_z3, Ts.q_nt_l, Ts.q_nt_s, Ts.q_im_s, Ts.q_im_l, Ts.q_im_t, Ts.q_s_set, Ts.q_s_new, Ts.q_s_unp, Ts.q_s_app, Ts.q_s_seti, Ts.q_s_ret, Ts.q_s_retn, Ts.q_s_ife, Ts.q_s_ex, Ts.q_s_pas, Ts.q_s_brk, Ts.q_s_cnt, Ts.q_s_rse, Ts.q_s_tri, Ts.q_ss_n, Ts.q_ss_c, Ts.q_tg_x, Ts.q_tg_xs, Ts.q_st_n, Ts.q_st_c, Ts.q_b_add_i, Ts.q_b_add_s, Ts.q_b_add_l, Ts.q_b_add_t, Ts.q_b_sub_i, Ts.q_b_mul_i, Ts.q_b_mul_s, Ts.q_b_fdiv_i, Ts.q_b_mod_i, Ts.q_b_pow_i, Ts.q_c_eq_a, Ts.q_c_ne_a, Ts.q_c_lt_i, Ts.q_c_le_i, Ts.q_c_gt_i, Ts.q_c_ge_i, Ts.q_c_is_b, Ts.q_c_isn_b, Ts.q_c_in__s, Ts.q_c_nin_s, Ts.q_c_in__t_int, Ts.q_c_nin_t_int, Ts.q_c_in__t_str, Ts.q_c_nin_t_str, Ts.q_c_in__t_bl, Ts.q_c_nin_t_bl, Ts.q_c_is_n, Ts.q_c_isn_n, Ts.q_c_in__l, Ts.q_c_nin_l, Ts.q_nn_non, Ts.q_nn_bl, Ts.q_nn_int, Ts.q_nn_str, Ts.q_nn_tup, Ts.q_nn_lst, Ts.q_nn_dct, Ts.q_i_s, Ts.q_i_l, Ts.q_i_t, Ts.q_sl_s, Ts.q_sl_l, Ts.q_sl_t, Ts.q_f_len_s, Ts.q_f_len_l, Ts.q_f_len_t, Ts.q_f_abs, Ts.q_f_int_i, Ts.q_f_int_b, Ts.q_f_str, Ts.q_f_list_l, Ts.q_f_list_t, Ts.q_f_tup_l, Ts.q_f_tup_t, Ts.q_f_sum, Ts.q_f_all, Ts.q_f_any, Ts.q_f_max2, Ts.q_f_min2, Ts.q_f_maxl, Ts.q_f_minl, Ts.q_f_isi, Ts.q_m_join, Ts.q_m_upper, Ts.q_m_lower, Ts.q_m_islower, Ts.q_m_isupper, Ts.q_m_isdigit, Ts.q_m_isalnum, Ts.q_m_split, Ts.q_isstr, Ts.q_ni_non, Ts.q_is_str_non, Ts.q_is_tuple_non, Ts.q_is_int_non, Ts.q_is_bool_non, Ts.q_is_list_non, Ts.q_ni_bl, Ts.q_is_str_bl, Ts.q_is_tuple_bl, Ts.q_is_int_bl, Ts.q_is_bool_bl, Ts.q_is_list_bl, Ts.q_ni_int, Ts.q_is_str_int, Ts.q_is_tuple_int, Ts.q_is_int_int, Ts.q_is_bool_int, Ts.q_is_list_int, Ts.q_ni_str, Ts.q_is_str_str, Ts.q_is_tuple_str, Ts.q_is_int_str, Ts.q_is_bool_str, Ts.q_is_list_str, Ts.q_ni_tup, Ts.q_is_str_tup, Ts.q_is_tuple_tup, Ts.q_is_int_tup, Ts.q_is_bool_tup, Ts.q_is_list_tup, Ts.q_ni_lst, Ts.q_is_str_lst, Ts.q_is_tuple_lst, Ts.q_is_int_lst, Ts.q_is_bool_lst, Ts.q_is_list_lst, Ts.q_ni_dct, Ts.q_is_str_dct, Ts.q_is_tuple_dct, Ts.q_is_int_dct, Ts.q_is_bool_dct, Ts.q_is_list_dct, Ts.q_s_for, Ts.q_s_whl, Ts.q_e_lc, Option.some.injEq, exists_eq_left', exists_eq_left, D.bl.injEq, D.int.injEq, D.str.injEq, D.lst.injEq, D.tup.injEq, Ts.Sl.lst.injEq, List.map_cons, List.map_nil, List.length_cons, List.length_nil, List.getElem?_cons_zero, List.getElem?_cons_succ, List.set_cons_zero, List.set_cons_succ, and_true, true_and, exists_and_left, if_true, if_false, Bool.false_eq_true, reduceIte, reduceCtorEq, Bool.not_true, Bool.not_false]
          refine ⟨(deed_ok d hd).1, by decide, ?_⟩
          by_cases h : d = RAISE
          · rw [if_pos (by rw [h]; rfl)]
            rw [if_pos h] at e
            exact ⟨line, by omega, hx.all128, e _ _ rfl⟩
          · rw [if_neg (by simp only [beq_iff_eq]; exact h)]
            rw [if_neg h] at e
            refine ⟨(deed_ok d hd).1, by decide, ?_⟩
            by_cases h2 : d = SINK
            · rw [if_pos (by rw [h2]; rfl)]
              rw [if_pos h2] at e
              exact ⟨line, by omega, e _ _ (by rw [low_eq hx]; rfl)⟩
            · rw [if_neg (by simp only [beq_iff_eq]; exact h2)]
              rw [if_neg h2] at e
              exact ⟨line, e _ _ rfl⟩
        · rw [if_pos (by simp only [decide_eq_true_eq]; omega)]
          exact e _ _ (by dsimp only; rw [if_neg hij]; rfl)
/-! ### row_answer -/
def Rok (r : List Pc) : Prop := ∀ p ∈ r, p.ok
def dRow (r : List Pc) : D := .tup (r.map dPc)
theorem rowAns_app : ∀ (a b : List Pc) (t : List Nat), rowAns (a ++ b) t = (rowAns a t).bind fun x => (rowAns b t).map (x ++ ·)
  | [], b, t => by
    show rowAns b t = (rowAns b t).map ([] ++ ·)
    cases rowAns b t <;> rfl
  | p :: a, b, t => by
    show (match ans p t with | none => none | some s => (rowAns (a ++ b) t).map (s ++ ·)) = (match ans p t with | none => none | some s => (rowAns a t).map (s ++ ·)).bind _
    cases ans p t with
    | none => rfl
    | some s =>
      dsimp only
      rw [rowAns_app a b t]
      cases rowAns a t with
      | none => rfl
      | some x =>
        cases rowAns b t with
        | none => rfl
        | some y => simp [List.append_assoc]
theorem rowAns_one (p : Pc) (t : List Nat) : rowAns [p] t = ans p t := by
  show (match ans p t with | none => none | some s => (some ([] : List Nat)).map (s ++ ·)) = ans p t
  cases ans p t with
  | none => rfl
  | some s => simp
theorem rowAns_len : ∀ {r : List Pc} {t s : List Nat}, Rok r → t.length ≤ 24 → rowAns r t = some s → s.length ≤ 24 * r.length
  | [], _, _, _, _, h => by cases h; simp
  | p :: r, t, s, hr, ht, h => by
    unfold rowAns at h
    split at h
    · cases h
    · rename_i x hx
      rw [Option.map_eq_some_iff] at h
      obtain ⟨y, hy, rfl⟩ := h
      have h1 := ans_len (hr p List.mem_cons_self) hx
      have h2 := rowAns_len (fun q hq => hr q (List.mem_cons_of_mem _ hq)) ht hy
      rw [List.length_append, List.length_cons]
      omega
theorem rowAns_tx : ∀ {r : List Pc} {t s : List Nat}, Rok r → Tx t → rowAns r t = some s → Tx s
  | [], _, _, _, _, h => by cases h; exact Tx.nil
  | p :: r, t, s, hr, ht, h => by
    unfold rowAns at h
    split at h
    · cases h
    · rename_i x hx
      rw [Option.map_eq_some_iff] at h
      obtain ⟨y, hy, rfl⟩ := h
      exact (ans_tx (hr p List.mem_cons_self) ht hx).app (rowAns_tx (fun q hq => hr q (List.mem_cons_of_mem _ hq)) ht hy)
def sp_rowAns : PSpec := { ar := 2, G := List Pc × List Nat, pre := fun g ds => ds = [dRow g.1, .str g.2] ∧ Rok g.1 ∧ g.1.length ≤ 1000 ∧ Tx g.2 ∧ g.2.length ≤ 24, ret := fun g r => r = dT (rowAns g.1 g.2) }
theorem r_rowAns {g d} : sp_rowAns.ret g d = (d = dT (rowAns g.1 g.2)) := rfl
theorem x_rowAns {g c} : sp_rowAns.exc g c = False := rfl
def m_rowAns : Sm := { fn := [sp_ans], cn := [] }
theorem w_rowAns (g : List Pc × List Nat) (ds : List D) (hl : ds.length = 2) (hp : sp_rowAns.pre g ds) : wpSs m_rowAns b_row_answer (rho0 5 ds) (pt sp_rowAns g) := by
  obtain ⟨r, t⟩ := g
  obtain ⟨rfl, hr, hrl, ht, hn⟩ := hp
  have hr : Rok r := hr
  have hrl : r.length ≤ 1000 := hrl
  have ht : Tx t := ht
  have hn : t.length ≤ 24 := hn
  have e : ∀ d ρ, d = dT (rowAns r t) → (pt sp_rowAns (r, t)).rt d ρ := fun d ρ h => h
  rw [show rho0 5 [dRow r, D.str t] = [.val (.tup (r.map dPc)), .val (.str t), .no, .no, .no] from rfl]
  generalize pt sp_rowAns (r, t) = P at e ⊢
  simp only [b_row_answer, b_row_answer_1, m_rowAns, Ts.q_o_v, Ts.q_o_k, Ts.q_o_g, Ts.q_o_bin, Ts.q_o_neg, Ts.q_o_cmp, Ts.q_o_cmp2, Ts.q_o_and, Ts.q_o_or, Ts.q_o_not, Ts.q_o_ite, Ts.q_o_tup, Ts.q_o_lst, Ts.q_o_ix, Ts.q_o_sl, Ts.q_o_call, Ts.q_o_bi, Ts.q_o_mt, Ts.q_o_lc, Ts.q_o_lrng, Ts.q_o_dic, Ts.q_o_dce, Ts.q_o_ise, Ts.q_o_o, Ts.q_od_v, Ts.q_od_o, Ts.q_ods_n, Ts.q_ods_c, Ts.q_sv_v, Ts.q_sv_l, Ts.q_own_l, Ts.q_isl_l, Ts.q_vs_v, Ts.q_vs_l, Ts.q_e_v, Ts.q_e_k, Ts.q_e_g, Ts.q_e_bin, Ts.q_e_neg, Ts.q_e_cmp, Ts.q_e_cmp2, Ts.q_e_and, Ts.q_e_or, Ts.q_e_not, Ts.q_e_ite, Ts.q_e_tup, Ts.q_e_lst, Ts.q_e_ix, Ts.q_e_sl, Ts.q_e_call, Ts.q_e_bi, Ts.q_e_mt, Ts.q_e_dic, Ts.q_e_dce, Ts.q_e_lrng, Ts.q_e_ise, Ts.q_es_n, Ts.q_es_c, Ts.q_os_n, Ts.q_os_c, Ts.q_oe_n, Ts.q_oe_s, Ts.q_if_n, Ts.q_if_s, Ts.q_it_of, Ts.q_it_r1, Ts.q_it_r2, Ts.q_it_en, Ts.q_it_z2, Ts.q_it_z3, Ts.q_nt_l, Ts.q_nt_s, Ts.q_im_s, Ts.q_im_l, Ts.q_im_t, Ts.q_s_set, Ts.q_s_new, Ts.q_s_unp, Ts.q_s_app, Ts.q_s_seti, Ts.q_s_ret, Ts.q_s_retn, Ts.q_s_ife, Ts.q_s_ex, Ts.q_s_pas, Ts.q_s_brk, Ts.q_s_cnt, Ts.q_s_rse, Ts.q_s_tri, Ts.q_ss_n, Ts.q_ss_c, Ts.q_tg_x, Ts.q_tg_xs, Ts.q_st_n, Ts.q_st_c, Ts.q_b_add_i, Ts.q_b_add_s, Ts.q_b_add_l, Ts.q_b_add_t, Ts.q_b_sub_i, Ts.q_b_mul_i, Ts.q_b_mul_s, Ts.q_b_fdiv_i, Ts.q_b_mod_i, Ts.q_b_pow_i, Ts.q_c_eq_a, Ts.q_c_ne_a, Ts.q_c_lt_i, Ts.q_c_le_i, Ts.q_c_gt_i, Ts.q_c_ge_i, Ts.q_c_is_b, Ts.q_c_isn_b, Ts.q_c_in__s, Ts.q_c_nin_s, Ts.q_c_in__t_int, Ts.q_c_nin_t_int, Ts.q_c_in__t_str, Ts.q_c_nin_t_str, Ts.q_c_in__t_bl, Ts.q_c_nin_t_bl, Ts.q_c_is_n, Ts.q_c_isn_n, Ts.q_c_in__l, Ts.q_c_nin_l, Ts.q_nn_non, Ts.q_nn_bl, Ts.q_nn_int, Ts.q_nn_str, Ts.q_nn_tup, Ts.q_nn_lst, Ts.q_nn_dct, Ts.q_i_s, Ts.q_i_l, Ts.q_i_t, Ts.q_sl_s, Ts.q_sl_l, Ts.q_sl_t, Ts.q_f_len_s, Ts.q_f_len_l, Ts.q_f_len_t, Ts.q_f_abs, Ts.q_f_int_i, Ts.q_f_int_b, Ts.q_f_str, Ts.q_f_list_l, Ts.q_f_list_t, Ts.q_f_tup_l, Ts.q_f_tup_t, Ts.q_f_sum, Ts.q_f_all, Ts.q_f_any, Ts.q_f_max2, Ts.q_f_min2, Ts.q_f_maxl, Ts.q_f_minl, Ts.q_f_isi, Ts.q_m_join, Ts.q_m_upper, Ts.q_m_lower, Ts.q_m_islower, Ts.q_m_isupper, Ts.q_m_isdigit, Ts.q_m_isalnum, Ts.q_m_split, Ts.q_isstr, Ts.q_ni_non, Ts.q_is_str_non, Ts.q_is_tuple_non, Ts.q_is_int_non, Ts.q_is_bool_non, Ts.q_is_list_non, Ts.q_ni_bl, Ts.q_is_str_bl, Ts.q_is_tuple_bl, Ts.q_is_int_bl, Ts.q_is_bool_bl, Ts.q_is_list_bl, Ts.q_ni_int, Ts.q_is_str_int, Ts.q_is_tuple_int, Ts.q_is_int_int, Ts.q_is_bool_int, Ts.q_is_list_int, Ts.q_ni_str, Ts.q_is_str_str, Ts.q_is_tuple_str, Ts.q_is_int_str, Ts.q_is_bool_str, Ts.q_is_list_str, Ts.q_ni_tup, Ts.q_is_str_tup, Ts.q_is_tuple_tup, Ts.q_is_int_tup, Ts.q_is_bool_tup, Ts.q_is_list_tup, Ts.q_ni_lst, Ts.q_is_str_lst, Ts.q_is_tuple_lst, Ts.q_is_int_lst, Ts.q_is_bool_lst, Ts.q_is_list_lst, Ts.q_ni_dct, Ts.q_is_str_dct, Ts.q_is_tuple_dct, Ts.q_is_int_dct, Ts.q_is_bool_dct, Ts.q_is_list_dct, Ts.q_s_for, Ts.q_s_whl, Ts.q_e_lc, Option.some.injEq, exists_eq_left', exists_eq_left, D.bl.injEq, D.int.injEq, D.str.injEq, D.lst.injEq, D.tup.injEq, Ts.Sl.lst.injEq, List.map_cons, List.map_nil, List.length_cons, List.length_nil, List.getElem?_cons_zero, List.getElem?_cons_succ, List.set_cons_zero, List.set_cons_succ, and_true, true_and, exists_and_left, if_true, if_false, Bool.false_eq_true, reduceIte, reduceCtorEq, Bool.not_true, Bool.not_false]
  refine for_in (fun i ρ => ∃ s x3 x4, ρ = [.val (.tup (r.map dPc)), .val (.str t), .val (.str s), x3, x4] ∧ rowAns (r.take i) t = some s) ⟨[], .no, .no, rfl, rfl⟩ (fun i d ρ hd hI => ?_) (fun ρ hI => ?_)
  · obtain ⟨s, x3, x4, rfl, hs⟩ := hI
    rw [List.getElem?_map] at hd
    cases hpi : r[i]? with
    | none => rw [hpi] at hd; cases hd
    | some p =>
      rw [hpi] at hd
      cases hd
      have hp : p.ok := hr p (List.mem_of_getElem? hpi)
      have hil := (List.getElem?_eq_some_iff.mp hpi).1
      have htk : r.take (i + 1) = r.take i ++ [p] := by
        rw [List.take_succ, hpi]; rfl
      have hsl := rowAns_len (r := r.take i) (fun q hq => hr q (List.mem_of_mem_take hq)) hn hs
      rw [List.length_take] at hsl
      simp only [b_row_answer_L1, b_row_answer_L1_1, b_row_answer_L1_2, x_ans, r_ans, forall_eq, false_implies, implies_true, Ts.q_o_v, Ts.q_o_k, Ts.q_o_g, Ts.q_o_bin, Ts.q_o_neg, Ts.q_o_cmp, Ts.q_o_cmp2, Ts.q_o_and, Ts.q_o_or, Ts.q_o_not, Ts.q_o_ite, Ts.q_o_tup, Ts.q_o_lst, Ts.q_o_ix, Ts.q_o_sl, Ts.q_o_call, Ts.q_o_bi, Ts.q_o_mt, Ts.q_o_lc, Ts.q_o_lrng, Ts.q_o_dic, Ts.q_o_dce, Ts.q_o_ise, Ts.q_o_o, Ts.q_od_v, Ts.q_od_o, Ts.q_ods_n, Ts.q_ods_c, Ts.q_sv_v, Ts.q_sv_l, Ts.q_own_l, Ts.q_isl_l, Ts.q_vs_v, Ts.q_vs_l, Ts.q_e_v, Ts.q_e_k, Ts.q_e_g, Ts.q_e_bin, Ts.q_e_neg, Ts.q_e_cmp, Ts.q_e_cmp2, Ts.q_e_and, Ts.q_e_or, Ts.q_e_not, Ts.q_e_ite, Ts.q_e_tup, Ts.q_e_lst, Ts.q_e_ix, Ts.q_e_sl, Ts.q_e_call, Ts.q_e_bi, Ts.q_e_mt, Ts.q_e_dic, Ts.q_e_dce, Ts.q_e_lrng, Ts.q_e_ise, Ts.q_es_n, Ts.q_es_c, Ts.q_os_n, Ts.q_os_c, Ts.q_oe_n, Ts.q_oe_s, Ts.q_if_n, Ts.q_if_s, Ts.q_it_of, Ts.q_it_r1, Ts.q_it_r2, Ts.q_it_en, Ts.q_it_z2, Ts.q_it_z3, Ts.q_nt_l, Ts.q_nt_s, Ts.q_im_s, Ts.q_im_l, Ts.q_im_t, Ts.q_s_set, Ts.q_s_new, Ts.q_s_unp, Ts.q_s_app, Ts.q_s_seti, Ts.q_s_ret, Ts.q_s_retn, Ts.q_s_ife, Ts.q_s_ex, Ts.q_s_pas, Ts.q_s_brk, Ts.q_s_cnt, Ts.q_s_rse, Ts.q_s_tri, Ts.q_ss_n, Ts.q_ss_c, Ts.q_tg_x, Ts.q_tg_xs, Ts.q_st_n, Ts.q_st_c, Ts.q_b_add_i, Ts.q_b_add_s, Ts.q_b_add_l, Ts.q_b_add_t, Ts.q_b_sub_i, Ts.q_b_mul_i, Ts.q_b_mul_s, Ts.q_b_fdiv_i, Ts.q_b_mod_i, Ts.q_b_pow_i, Ts.q_c_eq_a, Ts.q_c_ne_a, Ts.q_c_lt_i, Ts.q_c_le_i, Ts.q_c_gt_i, Ts.q_c_ge_i, Ts.q_c_is_b, Ts.q_c_isn_b, Ts.q_c_in__s, Ts.q_c_nin_s, Ts.q_c_in__t_int, Ts.q_c_nin_t_int, Ts.q_c_in__t_str, Ts.q_c_nin_t_str, Ts.q_c_in__t_bl, Ts.q_c_nin_t_bl, Ts.q_c_is_n, Ts.q_c_isn_n, Ts.q_c_in__l, Ts.q_c_nin_l, Ts.q_nn_non, Ts.q_nn_bl, Ts.q_nn_int, Ts.q_nn_str, Ts.q_nn_tup, Ts.q_nn_lst, Ts.q_nn_dct, Ts.q_i_s, Ts.q_i_l, Ts.q_i_t, Ts.q_sl_s, Ts.q_sl_l, Ts.q_sl_t, Ts.q_f_len_s, Ts.q_f_len_l, Ts.q_f_len_t, Ts.q_f_abs, Ts.q_f_int_i, Ts.q_f_int_b, Ts.q_f_str, Ts.q_f_list_l, Ts.q_f_list_t, Ts.q_f_tup_l, Ts.q_f_tup_t, Ts.q_f_sum, Ts.q_f_all, Ts.q_f_any, Ts.q_f_max2, Ts.q_f_min2, Ts.q_f_maxl, Ts.q_f_minl, Ts.q_f_isi, Ts.q_m_join, Ts.q_m_upper, Ts.q_m_lower, Ts.q_m_islower, Ts.q_m_isupper, Ts.q_m_isdigit, Ts.q_m_isalnum, Ts.q_m_split, Ts.q_isstr, Ts.q_ni_non, Ts.q_is_str_non, Ts.q_is_tuple_non, Ts.q_is_int_non, Ts.q_is_bool_non, Ts.q_is_list_non, Ts.q_ni_bl, Ts.q_is_str_bl, Ts.q_is_tuple_bl, Ts.q_is_int_bl, Ts.q_is_bool_bl, Ts.q_is_list_bl, Ts.q_ni_int, Ts.q_is_str_int, Ts.q_is_tuple_int, Ts.q_is_int_int, Ts.q_is_bool_int, Ts.q_is_list_int, Ts.q_ni_str, Ts.q_is_str_str, Ts.q_is_tuple_str, Ts.q_is_int_str, Ts.q_is_bool_str, Ts.q_is_list_str, Ts.q_ni_tup, Ts.q_is_str_tup, Ts.q_is_tuple_tup, Ts.q_is_int_tup, Ts.q_is_bool_tup, Ts.q_is_list_tup, Ts.q_ni_lst, Ts.q_is_str_lst, Ts.q_is_tuple_lst, Ts.q_is_int_lst, Ts.q_is_bool_lst, Ts.q_is_list_lst, Ts.q_ni_dct, Ts.q_is_str_dct, Ts.q_is_tuple_dct, Ts.q_is_int_dct, Ts.q_is_bool_dct, Ts.q_is_list_dct, Ts.q_s_for, Ts.q_s_whl, Ts.q_e_lc, Option.some.injEq, exists_eq_left', exists_eq_left, D.bl.injEq, D.int.injEq, D.str.injEq, D.lst.injEq, D.tup.injEq, Ts.Sl.lst.injEq, List.map_cons, List.map_nil, List.length_cons, List.length_nil, List.getElem?_cons_zero, List.getElem?_cons_succ, List.set_cons_zero, List.set_cons_succ, and_true, true_and, exists_and_left, if_true, if_false, Bool.false_eq_true, reduceIte, reduceCtorEq, Bool.not_true, Bool.not_false]
      refine ⟨rfl, (p, t), ⟨rfl, hp, ht, le100 hn⟩, ?_⟩
      dsimp only
      cases ea : ans p t with
      | none =>
        simp only [dT, Ts.q_o_v, Ts.q_o_k, Ts.q_o_g, Ts.q_o_bin, Ts.q_o_neg, Ts.q_o_cmp, Ts.q_o_cmp2, Ts.q_o_and, Ts.q_o_or, Ts.q_o_not, Ts.q_o_ite, Ts.q_o_tup, Ts.q_o_lst, Ts.q_o_ix, Ts.q_o_sl, Ts.q_o_call, Ts.q_o_bi, Ts.q_o_mt, Ts.q_o_lc, Ts.q_o_lrng, Ts.q_o_dic, Ts.q_o_dce, Ts.q_o_ise, Ts.q_o_o, Ts.q_od_v, Ts.q_od_o, Ts.q_ods_n, Ts.q_ods_c, Ts.q_sv_v, Ts.q_sv_l, Ts.q_own_l, Ts.q_isl_l, Ts.q_vs_v, Ts.q_vs_l, Ts.q_e_v, Ts.q_e_k, Ts.q_e_g, Ts.q_e_bin, Ts.q_e_neg, Ts.q_e_cmp, Ts.q_e_cmp2, Ts.q_e_and, Ts.q_e_or, Ts.q_e_not, Ts.q_e_ite, Ts.q_e_tup, Ts.q_e_lst, Ts.q_e_ix, Ts.q_e_sl, Ts.q_e_call, Ts.q_e_bi, Ts.q_e_mt, Ts.q_e_dic, Ts.q_e_dce, Ts.q_e_lrng, Ts.q_e_ise, Ts.q_es_n, Ts.q_es_c, Ts.q_os_n, Ts.q_os_c, Ts.q_oe_n, Ts.q_oe_s, Ts.q_if_n, Ts.q_if_s, Ts.q_it_of, Ts.q_it_r1, Ts.q_it_r2, Ts.q_it_en, Ts.q_it_z2, Ts.q_it_z3, Ts.q_nt_l, Ts.q_nt_s, Ts.q_im_s, Ts.q_im_l, Ts.q_im_t, Ts.q_s_set, Ts.q_s_new, Ts.q_s_unp, Ts.q_s_app, Ts.q_s_seti, Ts.q_s_ret, Ts.q_s_retn, Ts.q_s_ife, Ts.q_s_ex, Ts.q_s_pas, Ts.q_s_brk, Ts.q_s_cnt, Ts.q_s_rse, Ts.q_s_tri, Ts.q_ss_n, Ts.q_ss_c, Ts.q_tg_x, Ts.q_tg_xs, Ts.q_st_n, Ts.q_st_c, Ts.q_b_add_i, Ts.q_b_add_s, Ts.q_b_add_l, Ts.q_b_add_t, Ts.q_b_sub_i, Ts.q_b_mul_i, Ts.q_b_mul_s, Ts.q_b_fdiv_i, Ts.q_b_mod_i, Ts.q_b_pow_i, Ts.q_c_eq_a, Ts.q_c_ne_a, Ts.q_c_lt_i, Ts.q_c_le_i, Ts.q_c_gt_i, Ts.q_c_ge_i, Ts.q_c_is_b, Ts.q_c_isn_b, Ts.q_c_in__s, Ts.q_c_nin_s, Ts.q_c_in__t_int, Ts.q_c_nin_t_int, Ts.q_c_in__t_str, Ts.q_c_nin_t_str, Ts.q_c_in__t_bl, Ts.q_c_nin_t_bl, Ts.q_c_is_n, Ts.q_c_isn_n, Ts.q_c_in__l, Ts.q_c_nin_l, Ts.q_nn_non, Ts.q_nn_bl, Ts.q_nn_int, Ts.q_nn_str, Ts.q_nn_tup, Ts.q_nn_lst, Ts.q_nn_dct, Ts.q_i_s, Ts.q_i_l, Ts.q_i_t, Ts.q_sl_s, Ts.q_sl_l, Ts.q_sl_t, Ts.q_f_len_s, Ts.q_f_len_l, Ts.q_f_len_t, Ts.q_f_abs, Ts.q_f_int_i, Ts.q_f_int_b, Ts.q_f_str, Ts.q_f_list_l, Ts.q_f_list_t, Ts.q_f_tup_l, Ts.q_f_tup_t, Ts.q_f_sum, Ts.q_f_all, Ts.q_f_any, Ts.q_f_max2, Ts.q_f_min2, Ts.q_f_maxl, Ts.q_f_minl, Ts.q_f_isi, Ts.q_m_join, Ts.q_m_upper, Ts.q_m_lower, Ts.q_m_islower, Ts.q_m_isupper, Ts.q_m_isdigit, Ts.q_m_isalnum, Ts.q_m_split, Ts.q_isstr, Ts.q_ni_non, Ts.q_is_str_non, Ts.q_is_tuple_non, Ts.q_is_int_non, Ts.q_is_bool_non, Ts.q_is_list_non, Ts.q_ni_bl, Ts.q_is_str_bl, Ts.q_is_tuple_bl, Ts.q_is_int_bl, Ts.q_is_bool_bl, Ts.q_is_list_bl, Ts.q_ni_int, Ts.q_is_str_int, Ts.q_is_tuple_int, Ts.q_is_int_int, Ts.q_is_bool_int, Ts.q_is_list_int, Ts.q_ni_str, Ts.q_is_str_str, Ts.q_is_tuple_str, Ts.q_is_int_str, Ts.q_is_bool_str, Ts.q_is_list_str, Ts.q_ni_tup, Ts.q_is_str_tup, Ts.q_is_tuple_tup, Ts.q_is_int_tup, Ts.q_is_bool_tup, Ts.q_is_list_tup, Ts.q_ni_lst, Ts.q_is_str_lst, Ts.q_is_tuple_lst, Ts.q_is_int_lst, Ts.q_is_bool_lst, Ts.q_is_list_lst, Ts.q_ni_dct, Ts.q_is_str_dct, Ts.q_is_tuple_dct, Ts.q_is_int_dct, Ts.q_is_bool_dct, Ts.q_is_list_dct, Ts.q_s_for, Ts.q_s_whl, Ts.q_e_lc, Option.some.injEq, exists_eq_left', exists_eq_left, D.bl.injEq, D.int.injEq, D.str.injEq, D.lst.injEq, D.tup.injEq, Ts.Sl.lst.injEq, List.map_cons, List.map_nil, List.length_cons, List.length_nil, List.getElem?_cons_zero, List.getElem?_cons_succ, List.set_cons_zero, List.set_cons_succ, and_true, true_and, exists_and_left, if_true, if_false, Bool.false_eq_true, reduceIte, reduceCtorEq, Bool.not_true, Bool.not_false]
        refine e _ _ ?_
        have q : r = r.take i ++ (p :: r.drop (i + 1)) := by
          have := List.take_append_drop i r
          rw [List.drop_eq_getElem_cons hil] at this
          have hp' : r[i] = p := by
            have := List.getElem?_eq_getElem hil
            rw [hpi] at this
            cases this; rfl
          rw [hp'] at this
          exact this.symm
        rw [q, rowAns_app, hs]
        show D.non = dT ((rowAns (p :: r.drop (i + 1)) t).map (s ++ ·))
        unfold rowAns
        rw [ea]
        rfl
      | some x =>
        simp only [dT, Ts.q_o_v, Ts.q_o_k, Ts.q_o_g, Ts.q_o_bin, Ts.q_o_neg, Ts.q_o_cmp, Ts.q_o_cmp2, Ts.q_o_and, Ts.q_o_or, Ts.q_o_not, Ts.q_o_ite, Ts.q_o_tup, Ts.q_o_lst, Ts.q_o_ix, Ts.q_o_sl, Ts.q_o_call, Ts.q_o_bi, Ts.q_o_mt, Ts.q_o_lc, Ts.q_o_lrng, Ts.q_o_dic, Ts.q_o_dce, Ts.q_o_ise, Ts.q_o_o, Ts.q_od_v, Ts.q_od_o, Ts.q_ods_n, Ts.q_ods_c, Ts.q_sv_v, Ts.q_sv_l, Ts.q_own_l, Ts.q_isl_l, Ts.q_vs_v, Ts.q_vs_l, Ts.q_e_v, Ts.q_e_k, Ts.q_e_g, Ts.q_e_bin, Ts.q_e_neg, Ts.q_e_cmp, Ts.q_e_cmp2, Ts.q_e_and, Ts.q_e_or, Ts.q_e_not, Ts.q_e_ite, Ts.q_e_tup, Ts.q_e_lst, Ts.q_e_ix, Ts.q_e_sl, Ts.q_e_call, Ts.q_e_bi, Ts.q_e_mt, Ts.q_e_dic, Ts.q_e_dce, Ts.q_e_lrng, Ts.q_e_ise, Ts.q_es_n, Ts.q_es_c, Ts.q_os_n, Ts.q_os_c, Ts.q_oe_n, Ts.q_oe_s, Ts.q_if_n, Ts.q_if_s, Ts.q_it_of, Ts.q_it_r1, Ts.q_it_r2, Ts.q_it_en, Ts.q_it_z2, Ts.q_it_z3, Ts.q_nt_l, Ts.q_nt_s, Ts.q_im_s, Ts.q_im_l, Ts.q_im_t, Ts.q_s_set, Ts.q_s_new, Ts.q_s_unp, Ts.q_s_app, Ts.q_s_seti, Ts.q_s_ret, Ts.q_s_retn, Ts.q_s_ife, Ts.q_s_ex, Ts.q_s_pas, Ts.q_s_brk, Ts.q_s_cnt, Ts.q_s_rse, Ts.q_s_tri, Ts.q_ss_n, Ts.q_ss_c, Ts.q_tg_x, Ts.q_tg_xs, Ts.q_st_n, Ts.q_st_c, Ts.q_b_add_i, Ts.q_b_add_s, Ts.q_b_add_l, Ts.q_b_add_t, Ts.q_b_sub_i, Ts.q_b_mul_i, Ts.q_b_mul_s, Ts.q_b_fdiv_i, Ts.q_b_mod_i, Ts.q_b_pow_i, Ts.q_c_eq_a, Ts.q_c_ne_a, Ts.q_c_lt_i, Ts.q_c_le_i, Ts.q_c_gt_i, Ts.q_c_ge_i, Ts.q_c_is_b, Ts.q_c_isn_b, Ts.q_c_in__s, Ts.q_c_nin_s, Ts.q_c_in__t_int, Ts.q_c_nin_t_int, Ts.q_c_in__t_str, Ts.q_c_nin_t_str, Ts.q_c_in__t_bl, Ts.q_c_nin_t_bl, Ts.q_c_is_n, Ts.q_c_isn_n, Ts.q_c_in__l, Ts.q_c_nin_l, Ts.q_nn_non, Ts.q_nn_bl, Ts.q_nn_int, Ts.q_nn_str, Ts.q_nn_tup, Ts.q_nn_lst, Ts.q_nn_dct, Ts.q_i_s, Ts.q_i_l, Ts.q_i_t, Ts.q_sl_s, Ts.q_sl_l, Ts.q_sl_t, Ts.q_f_len_s, Ts.q_f_len_l, Ts.q_f_len_t, Ts.q_f_abs, Ts.q_f_int_i, Ts.q_f_int_b, Ts.q_f_str, Ts.q_f_list_l, Ts.q_f_list_t, Ts.q_f_tup_l, Ts.q_f_tup_t, Ts.q_f_sum, Ts.q_f_all, Ts.q_f_any, Ts.q_f_max2, Ts.q_f_min2, Ts.q_f_maxl, Ts.q_f_minl, Ts.q_f_isi, Ts.q_m_join, Ts.q_m_upper, Ts.q_m_lower, Ts.q_m_islower, Ts.q_m_isupper, Ts.q_m_isdigit, Ts.q_m_isalnum, Ts.q_m_split, Ts.q_isstr, Ts.q_ni_non, Ts.q_is_str_non, Ts.q_is_tuple_non, Ts.q_is_int_non, Ts.q_is_bool_non, Ts.q_is_list_non, Ts.q_ni_bl, Ts.q_is_str_bl, Ts.q_is_tuple_bl, Ts.q_is_int_bl, Ts.q_is_bool_bl, Ts.q_is_list_bl, Ts.q_ni_int, Ts.q_is_str_int, Ts.q_is_tuple_int, Ts.q_is_int_int, Ts.q_is_bool_int, Ts.q_is_list_int, Ts.q_ni_str, Ts.q_is_str_str, Ts.q_is_tuple_str, Ts.q_is_int_str, Ts.q_is_bool_str, Ts.q_is_list_str, Ts.q_ni_tup, Ts.q_is_str_tup, Ts.q_is_tuple_tup, Ts.q_is_int_tup, Ts.q_is_bool_tup, Ts.q_is_list_tup, Ts.q_ni_lst, Ts.q_is_str_lst, Ts.q_is_tuple_lst, Ts.q_is_int_lst, Ts.q_is_bool_lst, Ts.q_is_list_lst, Ts.q_ni_dct, Ts.q_is_str_dct, Ts.q_is_tuple_dct, Ts.q_is_int_dct, Ts.q_is_bool_dct, Ts.q_is_list_dct, Ts.q_s_for, Ts.q_s_whl, Ts.q_e_lc, Option.some.injEq, exists_eq_left', exists_eq_left, D.bl.injEq, D.int.injEq, D.str.injEq, D.lst.injEq, D.tup.injEq, Ts.Sl.lst.injEq, List.map_cons, List.map_nil, List.length_cons, List.length_nil, List.getElem?_cons_zero, List.getElem?_cons_succ, List.set_cons_zero, List.set_cons_succ, and_true, true_and, exists_and_left, if_true, if_false, Bool.false_eq_true, reduceIte, reduceCtorEq, Bool.not_true, Bool.not_false]
        have hx := ans_len hp ea
        refine ⟨by show s.length + x.length ≤ 16777216; omega, s ++ x, _, _, rfl, ?_⟩
        rw [htk, rowAns_app, hs, rowAns_one, ea]
        rfl
  · obtain ⟨s, x3, x4, rfl, hs⟩ := hI
    simp only [b_row_answer_2, Ts.q_o_v, Ts.q_o_k, Ts.q_o_g, Ts.q_o_bin, Ts.q_o_neg, Ts.q_o_cmp, Ts.q_o_cmp2, Ts.q_o_and, Ts.q_o_or, Ts.q_o_not, Ts.q_o_ite, Ts.q_o_tup, Ts.q_o_lst, Ts.q_o_ix, Ts.q_o_sl, Ts.q_o_call, Ts.q_o_bi, Ts.q_o_mt, Ts.q_o_lc, Ts.q_o_lrng, Ts.q_o_dic, Ts.q_o_dce, Ts.q_o_ise, Ts.q_o_o, Ts.q_od_v, Ts.q_od_o, Ts.q_ods_n, Ts.q_ods_c, Ts.q_sv_v, Ts.q_sv_l, Ts.q_own_l, Ts.q_isl_l, Ts.q_vs_v, Ts.q_vs_l, Ts.q_e_v, Ts.q_e_k, Ts.q_e_g, Ts.q_e_bin, Ts.q_e_neg, Ts.q_e_cmp, Ts.q_e_cmp2, Ts.q_e_and, Ts.q_e_or, Ts.q_e_not, Ts.q_e_ite, Ts.q_e_tup, Ts.q_e_lst, Ts.q_e_ix, Ts.q_e_sl, Ts.q_e_call, Ts.q_e_bi, Ts.q_e_mt, Ts.q_e_dic, Ts.q_e_dce, Ts.q_e_lrng, Ts.q_e_ise, Ts.q_es_n, Ts.q_es_c, Ts.q_os_n, Ts.q_os_c, Ts.q_oe_n, Ts.q_oe_s, Ts.q_if_n, Ts.q_if_s, Ts.q_it_of, Ts.q_it_r1, Ts.q_it_r2, Ts.q_it_en, Ts.q_it_z2, Ts.q_it_z3, Ts.q_nt_l, Ts.q_nt_s, Ts.q_im_s, Ts.q_im_l, Ts.q_im_t, Ts.q_s_set, Ts.q_s_new, Ts.q_s_unp, Ts.q_s_app, Ts.q_s_seti, Ts.q_s_ret, Ts.q_s_retn, Ts.q_s_ife, Ts.q_s_ex, Ts.q_s_pas, Ts.q_s_brk, Ts.q_s_cnt, Ts.q_s_rse, Ts.q_s_tri, Ts.q_ss_n, Ts.q_ss_c, Ts.q_tg_x, Ts.q_tg_xs, Ts.q_st_n, Ts.q_st_c, Ts.q_b_add_i, Ts.q_b_add_s, Ts.q_b_add_l, Ts.q_b_add_t, Ts.q_b_sub_i, Ts.q_b_mul_i, Ts.q_b_mul_s, Ts.q_b_fdiv_i, Ts.q_b_mod_i, Ts.q_b_pow_i, Ts.q_c_eq_a, Ts.q_c_ne_a, Ts.q_c_lt_i, Ts.q_c_le_i, Ts.q_c_gt_i, Ts.q_c_ge_i, Ts.q_c_is_b, Ts.q_c_isn_b, Ts.q_c_in__s, Ts.q_c_nin_s, Ts.q_c_in__t_int, Ts.q_c_nin_t_int, Ts.q_c_in__t_str, Ts.q_c_nin_t_str, Ts.q_c_in__t_bl, Ts.q_c_nin_t_bl, Ts.q_c_is_n, Ts.q_c_isn_n, Ts.q_c_in__l, Ts.q_c_nin_l, Ts.q_nn_non, Ts.q_nn_bl, Ts.q_nn_int, Ts.q_nn_str, Ts.q_nn_tup, Ts.q_nn_lst, Ts.q_nn_dct, Ts.q_i_s, Ts.q_i_l, Ts.q_i_t, Ts.q_sl_s, Ts.q_sl_l, Ts.q_sl_t, Ts.q_f_len_s, Ts.q_f_len_l, Ts.q_f_len_t, Ts.q_f_abs, Ts.q_f_int_i, Ts.q_f_int_b, Ts.q_f_str, Ts.q_f_list_l, Ts.q_f_list_t, Ts.q_f_tup_l, Ts.q_f_tup_t, Ts.q_f_sum, Ts.q_f_all, Ts.q_f_any, Ts.q_f_max2, Ts.q_f_min2, Ts.q_f_maxl, Ts.q_f_minl, Ts.q_f_isi, Ts.q_m_join, Ts.q_m_upper, Ts.q_m_lower, Ts.q_m_islower, Ts.q_m_isupper, Ts.q_m_isdigit, Ts.q_m_isalnum, Ts.q_m_split, Ts.q_isstr, Ts.q_ni_non, Ts.q_is_str_non, Ts.q_is_tuple_non, Ts.q_is_int_non, Ts.q_is_bool_non, Ts.q_is_list_non, Ts.q_ni_bl, Ts.q_is_str_bl, Ts.q_is_tuple_bl, Ts.q_is_int_bl, Ts.q_is_bool_bl, Ts.q_is_list_bl, Ts.q_ni_int, Ts.q_is_str_int, Ts.q_is_tuple_int, Ts.q_is_int_int, Ts.q_is_bool_int, Ts.q_is_list_int, Ts.q_ni_str, Ts.q_is_str_str, Ts.q_is_tuple_str, Ts.q_is_int_str, Ts.q_is_bool_str, Ts.q_is_list_str, Ts.q_ni_tup, Ts.q_is_str_tup, Ts.q_is_tuple_tup, Ts.q_is_int_tup, Ts.q_is_bool_tup, Ts.q_is_list_tup, Ts.q_ni_lst, Ts.q_is_str_lst, Ts.q_is_tuple_lst, Ts.q_is_int_lst, Ts.q_is_bool_lst, Ts.q_is_list_lst, Ts.q_ni_dct, Ts.q_is_str_dct, Ts.q_is_tuple_dct, Ts.q_is_int_dct, Ts.q_is_bool_dct, Ts.q_is_list_dct, Ts.q_s_for, Ts.q_s_whl, Ts.q_e_lc, Option.some.injEq, exists_eq_left', exists_eq_left, D.bl.injEq, D.int.injEq, D.str.injEq, D.lst.injEq, D.tup.injEq, Ts.Sl.lst.injEq, List.map_cons, List.map_nil, List.length_cons, List.length_nil, List.getElem?_cons_zero, List.getElem?_cons_succ, List.set_cons_zero, List.set_cons_succ, and_true, true_and, exists_and_left, if_true, if_false, Bool.false_eq_true, reduceIte, reduceCtorEq, Bool.not_true, Bool.not_false]
    rw [List.length_map, List.take_length] at hs
    exact e _ _ (by rw [hs]; rfl)
end Lb
set_option Elab.async false
set_option linter.all false
set_option maxRecDepth 100000
set_option maxHeartbeats 1000000
/-! Lb: the laws' own row answers, words and pieces drawn. -/
namespace Lb
open PySem Ts
theorem strs_map : ∀ (ss : List (List Nat)), strs? (ss.map D.str) = some ss
  | [] => rfl
  | s :: ss => by
    show (strs? (ss.map D.str)).map (s :: ·) = _
    rw [strs_map ss]; rfl
theorem join_nil (ss : List (List Nat)) : (Txt.join (St []) (ss.map St)).cps.toList = ss.flatten := by
  have q : TL.tl (Txt.join (St []) (ss.map St)) = TL.joinL (TL.tl (St [])) ((ss.map St).map TL.tl) := by rw [TL.join_eq, TL.tl_join]
  refine (show _ = _ from q).trans ?_
  have e1 : TL.tl (St []) = [] := rfl
  have e2 : (ss.map St).map TL.tl = ss := by
    rw [List.map_map]
    have : ∀ s : List Nat, (TL.tl ∘ St) s = s := fun s => St_cps s
    rw [List.map_congr_left (g := id) (fun s _ => this s), List.map_id]
  rw [e1, e2]
  clear q e1 e2
  induction ss with
  | nil => rfl
  | cons c s ih =>
    cases s with
    | nil => simp [TL.joinL]
    | cons d s =>
      show c ++ ([] ++ TL.joinL [] (d :: s)) = _
      rw [ih]; rfl
theorem eq_non : ∀ o : Option (List Nat), eqD (dT o) .non = o.isNone
  | none => by simp only [dT, eqD]; rfl
  | some s => by simp only [dT, eqD]; rfl
theorem okT {o : Option (List Nat)} (h : ∀ s, o = some s → Tx s) : okN 40 (dT o) = true := by
  cases o with
  | none => rfl
  | some s => exact (h s rfl).ok
/-- the answers of a row's pieces, one by one -/
theorem rowAns_all : ∀ (r : List Pc) (t : List Nat), rowAns r t = if (r.map fun p => ans p t).any (·.isNone) then none else some ((r.map fun p => (ans p t).getD []).flatten)
  | [], _ => rfl
  | p :: r, t => by
    show (match ans p t with | none => none | some s => (rowAns r t).map (s ++ ·)) = _
    rw [rowAns_all r t]
    cases h : ans p t with
    | none => simp [h]
    | some s =>
      simp only [List.map_cons, List.any_cons, h, Option.isNone_some, Bool.false_or, List.flatten_cons, Option.getD_some]
      split <;> rfl
theorem sum_le : ∀ {ss : List (List Nat)} {n : Nat}, (∀ s ∈ ss, s.length ≤ n) → (ss.map List.length).sum ≤ n * ss.length
  | [], _, _ => Nat.zero_le _
  | s :: ss, n, h => by
    have h1 := h s List.mem_cons_self
    have h2 := sum_le (ss := ss) fun x hx => h x (List.mem_cons_of_mem _ hx)
    rw [List.map_cons, List.sum_cons, List.length_cons, Nat.mul_add, Nat.mul_one]
    omega
theorem es_of {α : Type} {f : α → D} {g : α → D} {xs : List α} {es : List D} (hl : es.length = (xs.map f).length) (h : ∀ (i : Nat) d x, (xs.map f)[i]? = some d → es[i]? = some x → ∃ a, xs[i]? = some a ∧ x = g a) : es = xs.map g := by
  rw [List.length_map] at hl
  apply List.ext_getElem?
  intro i
  by_cases hi : i < xs.length
  · have he : es[i]? = some (es[i]'(by omega)) := by simp [hl, hi]
    obtain ⟨a, h1, h2⟩ := h i (f xs[i]) _ (by simp [hi]) he
    rw [he, h2, List.getElem?_map, h1]; rfl
  · rw [List.getElem?_eq_none (by omega), List.getElem?_eq_none (by rw [List.length_map]; omega)]
abbrev sp_lrowAns : PSpec := sp_rowAns
def m_lrowAns : Sm := { fn := [sp_ans], cn := [] }
def RAns (t : List Nat) (d x : D) : Prop := ∃ p : Pc, d = dPc p ∧ x = dT (ans p t)
theorem dPl_inj {p q : Plc} (h : dPl p = dPl q) : p = q := by
  obtain ⟨a, b, c⟩ := p
  obtain ⟨a', b', c'⟩ := q
  unfold dPl at h
  simp only [D.tup.injEq, List.cons.injEq, D.str.injEq, D.int.injEq, and_true] at h
  obtain ⟨rfl, rfl, rfl⟩ := h
  rfl
theorem dPc_inj : ∀ {p q : Pc}, dPc p = dPc q → p = q
  | .word w, .word w', h => by
    simp only [dPc, D.tup.injEq, List.cons.injEq, D.str.injEq, and_true, true_and] at h
    rw [h]
  | .word w, .st d a b, h => by
    simp only [dPc, D.tup.injEq, List.cons.injEq, reduceCtorEq, and_false, false_and] at h
  | .st d a b, .word w, h => by
    simp only [dPc, D.tup.injEq, List.cons.injEq, reduceCtorEq, and_false, false_and] at h
  | .st d a b, .st d' a' b', h => by
    simp only [dPc, D.tup.injEq, List.cons.injEq, D.str.injEq, and_true] at h
    obtain ⟨h1, h2, h3⟩ := h
    rw [h1, dPl_inj h2, dPl_inj h3]
theorem w_lrowAns (g : List Pc × List Nat) (ds : List D) (hl : ds.length = 2) (hp : sp_rowAns.pre g ds) : wpSs m_lrowAns b__law_row_answer (rho0 4 ds) (pt sp_rowAns g) := by
  obtain ⟨r, t⟩ := g
  obtain ⟨rfl, hr, hrl, ht, hn⟩ := hp
  have hr : Rok r := hr
  have hrl : r.length ≤ 1000 := hrl
  have ht : Tx t := ht
  have hn : t.length ≤ 24 := hn
  have e : ∀ d ρ, d = dT (rowAns r t) → (pt sp_rowAns (r, t)).rt d ρ := fun d ρ h => h
  rw [show rho0 4 [dRow r, D.str t] = [.val (.tup (r.map dPc)), .val (.str t), .no, .no] from rfl]
  generalize pt sp_rowAns (r, t) = P at e ⊢
  simp only [b__law_row_answer, m_lrowAns, Ts.q_o_v, Ts.q_o_k, Ts.q_o_g, Ts.q_o_bin, Ts.q_o_neg, Ts.q_o_cmp, Ts.q_o_cmp2, Ts.q_o_and, Ts.q_o_or, Ts.q_o_not, Ts.q_o_ite, Ts.q_o_tup, Ts.q_o_lst, Ts.q_o_ix, Ts.q_o_sl, Ts.q_o_call, Ts.q_o_bi, Ts.q_o_mt, Ts.q_o_lc, Ts.q_o_lrng, Ts.q_o_dic, Ts.q_o_dce, Ts.q_o_ise, Ts.q_o_o, Ts.q_od_v, Ts.q_od_o, Ts.q_ods_n, Ts.q_ods_c, Ts.q_sv_v, Ts.q_sv_l, Ts.q_own_l, Ts.q_isl_l, Ts.q_vs_v, Ts.q_vs_l, Ts.q_e_v, Ts.q_e_k, Ts.q_e_g, Ts.q_e_bin, Ts.q_e_neg, Ts.q_e_cmp, Ts.q_e_cmp2, Ts.q_e_and, Ts.q_e_or, Ts.q_e_not, Ts.q_e_ite, Ts.q_e_tup, Ts.q_e_lst, Ts.q_e_ix, Ts.q_e_sl, Ts.q_e_call, Ts.q_e_bi, Ts.q_e_mt, Ts.q_e_dic, Ts.q_e_dce, Ts.q_e_lrng, Ts.q_e_ise, Ts.q_es_n, Ts.q_es_c, Ts.q_os_n, Ts.q_os_c, Ts.q_oe_n, Ts.q_oe_s, Ts.q_if_n, Ts.q_if_s, Ts.q_it_of, Ts.q_it_r1, Ts.q_it_r2, Ts.q_it_en, Ts.q_it_z2, Ts.q_it_z3, Ts.q_nt_l, Ts.q_nt_s, Ts.q_im_s, Ts.q_im_l, Ts.q_im_t, Ts.q_s_set, Ts.q_s_new, Ts.q_s_unp, Ts.q_s_app, Ts.q_s_seti, Ts.q_s_ret, Ts.q_s_retn, Ts.q_s_ife, Ts.q_s_ex, Ts.q_s_pas, Ts.q_s_brk, Ts.q_s_cnt, Ts.q_s_rse, Ts.q_s_tri, Ts.q_ss_n, Ts.q_ss_c, Ts.q_tg_x, Ts.q_tg_xs, Ts.q_st_n, Ts.q_st_c, Ts.q_b_add_i, Ts.q_b_add_s, Ts.q_b_add_l, Ts.q_b_add_t, Ts.q_b_sub_i, Ts.q_b_mul_i, Ts.q_b_mul_s, Ts.q_b_fdiv_i, Ts.q_b_mod_i, Ts.q_b_pow_i, Ts.q_c_eq_a, Ts.q_c_ne_a, Ts.q_c_lt_i, Ts.q_c_le_i, Ts.q_c_gt_i, Ts.q_c_ge_i, Ts.q_c_is_b, Ts.q_c_isn_b, Ts.q_c_in__s, Ts.q_c_nin_s, Ts.q_c_in__t_int, Ts.q_c_nin_t_int, Ts.q_c_in__t_str, Ts.q_c_nin_t_str, Ts.q_c_in__t_bl, Ts.q_c_nin_t_bl, Ts.q_c_is_n, Ts.q_c_isn_n, Ts.q_c_in__l, Ts.q_c_nin_l, Ts.q_nn_non, Ts.q_nn_bl, Ts.q_nn_int, Ts.q_nn_str, Ts.q_nn_tup, Ts.q_nn_lst, Ts.q_nn_dct, Ts.q_i_s, Ts.q_i_l, Ts.q_i_t, Ts.q_sl_s, Ts.q_sl_l, Ts.q_sl_t, Ts.q_f_len_s, Ts.q_f_len_l, Ts.q_f_len_t, Ts.q_f_abs, Ts.q_f_int_i, Ts.q_f_int_b, Ts.q_f_str, Ts.q_f_list_l, Ts.q_f_list_t, Ts.q_f_tup_l, Ts.q_f_tup_t, Ts.q_f_sum, Ts.q_f_all, Ts.q_f_any, Ts.q_f_max2, Ts.q_f_min2, Ts.q_f_maxl, Ts.q_f_minl, Ts.q_f_isi, Ts.q_m_join, Ts.q_m_upper, Ts.q_m_lower, Ts.q_m_islower, Ts.q_m_isupper, Ts.q_m_isdigit, Ts.q_m_isalnum, Ts.q_m_split, Ts.q_isstr, Ts.q_ni_non, Ts.q_is_str_non, Ts.q_is_tuple_non, Ts.q_is_int_non, Ts.q_is_bool_non, Ts.q_is_list_non, Ts.q_ni_bl, Ts.q_is_str_bl, Ts.q_is_tuple_bl, Ts.q_is_int_bl, Ts.q_is_bool_bl, Ts.q_is_list_bl, Ts.q_ni_int, Ts.q_is_str_int, Ts.q_is_tuple_int, Ts.q_is_int_int, Ts.q_is_bool_int, Ts.q_is_list_int, Ts.q_ni_str, Ts.q_is_str_str, Ts.q_is_tuple_str, Ts.q_is_int_str, Ts.q_is_bool_str, Ts.q_is_list_str, Ts.q_ni_tup, Ts.q_is_str_tup, Ts.q_is_tuple_tup, Ts.q_is_int_tup, Ts.q_is_bool_tup, Ts.q_is_list_tup, Ts.q_ni_lst, Ts.q_is_str_lst, Ts.q_is_tuple_lst, Ts.q_is_int_lst, Ts.q_is_bool_lst, Ts.q_is_list_lst, Ts.q_ni_dct, Ts.q_is_str_dct, Ts.q_is_tuple_dct, Ts.q_is_int_dct, Ts.q_is_bool_dct, Ts.q_is_list_dct, Ts.q_s_for, Ts.q_s_whl, Ts.q_e_lc, Option.some.injEq, exists_eq_left', exists_eq_left, D.bl.injEq, D.int.injEq, D.str.injEq, D.lst.injEq, D.tup.injEq, Ts.Sl.lst.injEq, List.map_cons, List.map_nil, List.length_cons, List.length_nil, List.getElem?_cons_zero, List.getElem?_cons_succ, List.set_cons_zero, List.set_cons_succ, and_true, true_and, exists_and_left, if_true, if_false, Bool.false_eq_true, reduceIte, reduceCtorEq, Bool.not_true, Bool.not_false]
  refine lc_all (RAns t) (by rw [List.length_map]; show _ ≤ 16777216; omega) (by rfl) (fun d hd => ?_) (fun es hel hes => ?_)
  · obtain ⟨p, hp, rfl⟩ := List.mem_map.mp hd
    simp only [wipeE, x_ans, r_ans, forall_eq, false_implies, implies_true, Ts.q_o_v, Ts.q_o_k, Ts.q_o_g, Ts.q_o_bin, Ts.q_o_neg, Ts.q_o_cmp, Ts.q_o_cmp2, Ts.q_o_and, Ts.q_o_or, Ts.q_o_not, Ts.q_o_ite, Ts.q_o_tup, Ts.q_o_lst, Ts.q_o_ix, Ts.q_o_sl, Ts.q_o_call, Ts.q_o_bi, Ts.q_o_mt, Ts.q_o_lc, Ts.q_o_lrng, Ts.q_o_dic, Ts.q_o_dce, Ts.q_o_ise, Ts.q_o_o, Ts.q_od_v, Ts.q_od_o, Ts.q_ods_n, Ts.q_ods_c, Ts.q_sv_v, Ts.q_sv_l, Ts.q_own_l, Ts.q_isl_l, Ts.q_vs_v, Ts.q_vs_l, Ts.q_e_v, Ts.q_e_k, Ts.q_e_g, Ts.q_e_bin, Ts.q_e_neg, Ts.q_e_cmp, Ts.q_e_cmp2, Ts.q_e_and, Ts.q_e_or, Ts.q_e_not, Ts.q_e_ite, Ts.q_e_tup, Ts.q_e_lst, Ts.q_e_ix, Ts.q_e_sl, Ts.q_e_call, Ts.q_e_bi, Ts.q_e_mt, Ts.q_e_dic, Ts.q_e_dce, Ts.q_e_lrng, Ts.q_e_ise, Ts.q_es_n, Ts.q_es_c, Ts.q_os_n, Ts.q_os_c, Ts.q_oe_n, Ts.q_oe_s, Ts.q_if_n, Ts.q_if_s, Ts.q_it_of, Ts.q_it_r1, Ts.q_it_r2, Ts.q_it_en, Ts.q_it_z2, Ts.q_it_z3, Ts.q_nt_l, Ts.q_nt_s, Ts.q_im_s, Ts.q_im_l, Ts.q_im_t, Ts.q_s_set, Ts.q_s_new, Ts.q_s_unp, Ts.q_s_app, Ts.q_s_seti, Ts.q_s_ret, Ts.q_s_retn, Ts.q_s_ife, Ts.q_s_ex, Ts.q_s_pas, Ts.q_s_brk, Ts.q_s_cnt, Ts.q_s_rse, Ts.q_s_tri, Ts.q_ss_n, Ts.q_ss_c, Ts.q_tg_x, Ts.q_tg_xs, Ts.q_st_n, Ts.q_st_c, Ts.q_b_add_i, Ts.q_b_add_s, Ts.q_b_add_l, Ts.q_b_add_t, Ts.q_b_sub_i, Ts.q_b_mul_i, Ts.q_b_mul_s, Ts.q_b_fdiv_i, Ts.q_b_mod_i, Ts.q_b_pow_i, Ts.q_c_eq_a, Ts.q_c_ne_a, Ts.q_c_lt_i, Ts.q_c_le_i, Ts.q_c_gt_i, Ts.q_c_ge_i, Ts.q_c_is_b, Ts.q_c_isn_b, Ts.q_c_in__s, Ts.q_c_nin_s, Ts.q_c_in__t_int, Ts.q_c_nin_t_int, Ts.q_c_in__t_str, Ts.q_c_nin_t_str, Ts.q_c_in__t_bl, Ts.q_c_nin_t_bl, Ts.q_c_is_n, Ts.q_c_isn_n, Ts.q_c_in__l, Ts.q_c_nin_l, Ts.q_nn_non, Ts.q_nn_bl, Ts.q_nn_int, Ts.q_nn_str, Ts.q_nn_tup, Ts.q_nn_lst, Ts.q_nn_dct, Ts.q_i_s, Ts.q_i_l, Ts.q_i_t, Ts.q_sl_s, Ts.q_sl_l, Ts.q_sl_t, Ts.q_f_len_s, Ts.q_f_len_l, Ts.q_f_len_t, Ts.q_f_abs, Ts.q_f_int_i, Ts.q_f_int_b, Ts.q_f_str, Ts.q_f_list_l, Ts.q_f_list_t, Ts.q_f_tup_l, Ts.q_f_tup_t, Ts.q_f_sum, Ts.q_f_all, Ts.q_f_any, Ts.q_f_max2, Ts.q_f_min2, Ts.q_f_maxl, Ts.q_f_minl, Ts.q_f_isi, Ts.q_m_join, Ts.q_m_upper, Ts.q_m_lower, Ts.q_m_islower, Ts.q_m_isupper, Ts.q_m_isdigit, Ts.q_m_isalnum, Ts.q_m_split, Ts.q_isstr, Ts.q_ni_non, Ts.q_is_str_non, Ts.q_is_tuple_non, Ts.q_is_int_non, Ts.q_is_bool_non, Ts.q_is_list_non, Ts.q_ni_bl, Ts.q_is_str_bl, Ts.q_is_tuple_bl, Ts.q_is_int_bl, Ts.q_is_bool_bl, Ts.q_is_list_bl, Ts.q_ni_int, Ts.q_is_str_int, Ts.q_is_tuple_int, Ts.q_is_int_int, Ts.q_is_bool_int, Ts.q_is_list_int, Ts.q_ni_str, Ts.q_is_str_str, Ts.q_is_tuple_str, Ts.q_is_int_str, Ts.q_is_bool_str, Ts.q_is_list_str, Ts.q_ni_tup, Ts.q_is_str_tup, Ts.q_is_tuple_tup, Ts.q_is_int_tup, Ts.q_is_bool_tup, Ts.q_is_list_tup, Ts.q_ni_lst, Ts.q_is_str_lst, Ts.q_is_tuple_lst, Ts.q_is_int_lst, Ts.q_is_bool_lst, Ts.q_is_list_lst, Ts.q_ni_dct, Ts.q_is_str_dct, Ts.q_is_tuple_dct, Ts.q_is_int_dct, Ts.q_is_bool_dct, Ts.q_is_list_dct, Ts.q_s_for, Ts.q_s_whl, Ts.q_e_lc, Option.some.injEq, exists_eq_left', exists_eq_left, D.bl.injEq, D.int.injEq, D.str.injEq, D.lst.injEq, D.tup.injEq, Ts.Sl.lst.injEq, List.map_cons, List.map_nil, List.length_cons, List.length_nil, List.getElem?_cons_zero, List.getElem?_cons_succ, List.set_cons_zero, List.set_cons_succ, and_true, true_and, exists_and_left, if_true, if_false, Bool.false_eq_true, reduceIte, reduceCtorEq, Bool.not_true, Bool.not_false]
    exact ⟨rfl, (p, t), ⟨rfl, hr p hp, ht, le100 hn⟩, p, rfl, rfl⟩
  · have hes' : es = r.map fun p => dT (ans p t) := es_of hel fun i d x h1 h2 => by
      obtain ⟨p, hp, hx⟩ := hes i d x h1 h2
      rw [List.getElem?_map] at h1
      cases h : r[i]? with
      | none => rw [h] at h1; cases h1
      | some q =>
        rw [h] at h1
        have : dPc q = d := by simpa using h1
        rw [hp] at this
        rw [dPc_inj this]
        exact ⟨p, rfl, hx⟩
    subst hes'
    simp only [b__law_row_answer_1, Ts.q_o_v, Ts.q_o_k, Ts.q_o_g, Ts.q_o_bin, Ts.q_o_neg, Ts.q_o_cmp, Ts.q_o_cmp2, Ts.q_o_and, Ts.q_o_or, Ts.q_o_not, Ts.q_o_ite, Ts.q_o_tup, Ts.q_o_lst, Ts.q_o_ix, Ts.q_o_sl, Ts.q_o_call, Ts.q_o_bi, Ts.q_o_mt, Ts.q_o_lc, Ts.q_o_lrng, Ts.q_o_dic, Ts.q_o_dce, Ts.q_o_ise, Ts.q_o_o, Ts.q_od_v, Ts.q_od_o, Ts.q_ods_n, Ts.q_ods_c, Ts.q_sv_v, Ts.q_sv_l, Ts.q_own_l, Ts.q_isl_l, Ts.q_vs_v, Ts.q_vs_l, Ts.q_e_v, Ts.q_e_k, Ts.q_e_g, Ts.q_e_bin, Ts.q_e_neg, Ts.q_e_cmp, Ts.q_e_cmp2, Ts.q_e_and, Ts.q_e_or, Ts.q_e_not, Ts.q_e_ite, Ts.q_e_tup, Ts.q_e_lst, Ts.q_e_ix, Ts.q_e_sl, Ts.q_e_call, Ts.q_e_bi, Ts.q_e_mt, Ts.q_e_dic, Ts.q_e_dce, Ts.q_e_lrng, Ts.q_e_ise, Ts.q_es_n, Ts.q_es_c, Ts.q_os_n, Ts.q_os_c, Ts.q_oe_n, Ts.q_oe_s, Ts.q_if_n, Ts.q_if_s, Ts.q_it_of, Ts.q_it_r1, Ts.q_it_r2, Ts.q_it_en, Ts.q_it_z2, Ts.q_it_z3, Ts.q_nt_l, Ts.q_nt_s, Ts.q_im_s, Ts.q_im_l, Ts.q_im_t, Ts.q_s_set, Ts.q_s_new, Ts.q_s_unp, Ts.q_s_app, Ts.q_s_seti, Ts.q_s_ret, Ts.q_s_retn, Ts.q_s_ife, Ts.q_s_ex, Ts.q_s_pas, Ts.q_s_brk, Ts.q_s_cnt, Ts.q_s_rse, Ts.q_s_tri, Ts.q_ss_n, Ts.q_ss_c, Ts.q_tg_x, Ts.q_tg_xs, Ts.q_st_n, Ts.q_st_c, Ts.q_b_add_i, Ts.q_b_add_s, Ts.q_b_add_l, Ts.q_b_add_t, Ts.q_b_sub_i, Ts.q_b_mul_i, Ts.q_b_mul_s, Ts.q_b_fdiv_i, Ts.q_b_mod_i, Ts.q_b_pow_i, Ts.q_c_eq_a, Ts.q_c_ne_a, Ts.q_c_lt_i, Ts.q_c_le_i, Ts.q_c_gt_i, Ts.q_c_ge_i, Ts.q_c_is_b, Ts.q_c_isn_b, Ts.q_c_in__s, Ts.q_c_nin_s, Ts.q_c_in__t_int, Ts.q_c_nin_t_int, Ts.q_c_in__t_str, Ts.q_c_nin_t_str, Ts.q_c_in__t_bl, Ts.q_c_nin_t_bl, Ts.q_c_is_n, Ts.q_c_isn_n, Ts.q_c_in__l, Ts.q_c_nin_l, Ts.q_nn_non, Ts.q_nn_bl, Ts.q_nn_int, Ts.q_nn_str, Ts.q_nn_tup, Ts.q_nn_lst, Ts.q_nn_dct, Ts.q_i_s, Ts.q_i_l, Ts.q_i_t, Ts.q_sl_s, Ts.q_sl_l, Ts.q_sl_t, Ts.q_f_len_s, Ts.q_f_len_l, Ts.q_f_len_t, Ts.q_f_abs, Ts.q_f_int_i, Ts.q_f_int_b, Ts.q_f_str, Ts.q_f_list_l, Ts.q_f_list_t, Ts.q_f_tup_l, Ts.q_f_tup_t, Ts.q_f_sum, Ts.q_f_all, Ts.q_f_any, Ts.q_f_max2, Ts.q_f_min2, Ts.q_f_maxl, Ts.q_f_minl, Ts.q_f_isi, Ts.q_m_join, Ts.q_m_upper, Ts.q_m_lower, Ts.q_m_islower, Ts.q_m_isupper, Ts.q_m_isdigit, Ts.q_m_isalnum, Ts.q_m_split, Ts.q_isstr, Ts.q_ni_non, Ts.q_is_str_non, Ts.q_is_tuple_non, Ts.q_is_int_non, Ts.q_is_bool_non, Ts.q_is_list_non, Ts.q_ni_bl, Ts.q_is_str_bl, Ts.q_is_tuple_bl, Ts.q_is_int_bl, Ts.q_is_bool_bl, Ts.q_is_list_bl, Ts.q_ni_int, Ts.q_is_str_int, Ts.q_is_tuple_int, Ts.q_is_int_int, Ts.q_is_bool_int, Ts.q_is_list_int, Ts.q_ni_str, Ts.q_is_str_str, Ts.q_is_tuple_str, Ts.q_is_int_str, Ts.q_is_bool_str, Ts.q_is_list_str, Ts.q_ni_tup, Ts.q_is_str_tup, Ts.q_is_tuple_tup, Ts.q_is_int_tup, Ts.q_is_bool_tup, Ts.q_is_list_tup, Ts.q_ni_lst, Ts.q_is_str_lst, Ts.q_is_tuple_lst, Ts.q_is_int_lst, Ts.q_is_bool_lst, Ts.q_is_list_lst, Ts.q_ni_dct, Ts.q_is_str_dct, Ts.q_is_tuple_dct, Ts.q_is_int_dct, Ts.q_is_bool_dct, Ts.q_is_list_dct, Ts.q_s_for, Ts.q_s_whl, Ts.q_e_lc, Option.some.injEq, exists_eq_left', exists_eq_left, D.bl.injEq, D.int.injEq, D.str.injEq, D.lst.injEq, D.tup.injEq, Ts.Sl.lst.injEq, List.map_cons, List.map_nil, List.length_cons, List.length_nil, List.getElem?_cons_zero, List.getElem?_cons_succ, List.set_cons_zero, List.set_cons_succ, and_true, true_and, exists_and_left, if_true, if_false, Bool.false_eq_true, reduceIte, reduceCtorEq, Bool.not_true, Bool.not_false]
    refine ⟨rfl, ?_, ?_⟩
    · rw [List.all_eq_true]
      intro d hd
      obtain ⟨p, hp, rfl⟩ := List.mem_map.mp hd
      exact okT fun s hs => ans_tx (hr p hp) ht hs
    · have hany : ((r.map fun p => dT (ans p t)).any fun d => eqD d .non) = (r.map fun p => ans p t).any (·.isNone) := by
        rw [List.any_map, List.any_map]
        congr 1
        funext p
        exact eq_non _
      rw [hany]
      rw [rowAns_all] at e
      cases hb : (r.map fun p => ans p t).any (·.isNone) with
      | true =>
        rw [hb] at e
        simp only [Ts.q_o_v, Ts.q_o_k, Ts.q_o_g, Ts.q_o_bin, Ts.q_o_neg, Ts.q_o_cmp, Ts.q_o_cmp2, Ts.q_o_and, Ts.q_o_or, Ts.q_o_not, Ts.q_o_ite, Ts.q_o_tup, Ts.q_o_lst, Ts.q_o_ix, Ts.q_o_sl, Ts.q_o_call, Ts.q_o_bi, Ts.q_o_mt, Ts.q_o_lc, Ts.q_o_lrng, Ts.q_o_dic, Ts.q_o_dce, Ts.q_o_ise, Ts.q_o_o, Ts.q_od_v, Ts.q_od_o, Ts.q_ods_n, Ts.q_ods_c, Ts.q_sv_v, Ts.q_sv_l, Ts.q_own_l, Ts.q_isl_l, Ts.q_vs_v, Ts.q_vs_l, Ts.q_e_v, Ts.q_e_k, Ts.q_e_g, Ts.q_e_bin, Ts.q_e_neg, Ts.q_e_cmp, Ts.q_e_cmp2, Ts.q_e_and, Ts.q_e_or, Ts.q_e_not, Ts.q_e_ite, Ts.q_e_tup, Ts.q_e_lst, Ts.q_e_ix, Ts.q_e_sl, Ts.q_e_call, Ts.q_e_bi, Ts.q_e_mt, Ts.q_e_dic, Ts.q_e_dce, Ts.q_e_lrng, Ts.q_e_ise, Ts.q_es_n, Ts.q_es_c, Ts.q_os_n, Ts.q_os_c, Ts.q_oe_n, Ts.q_oe_s, Ts.q_if_n, Ts.q_if_s, Ts.q_it_of, Ts.q_it_r1, Ts.q_it_r2, Ts.q_it_en, Ts.q_it_z2, Ts.q_it_z3, Ts.q_nt_l, Ts.q_nt_s, Ts.q_im_s, Ts.q_im_l, Ts.q_im_t, Ts.q_s_set, Ts.q_s_new, Ts.q_s_unp, Ts.q_s_app, Ts.q_s_seti, Ts.q_s_ret, Ts.q_s_retn, Ts.q_s_ife, Ts.q_s_ex, Ts.q_s_pas, Ts.q_s_brk, Ts.q_s_cnt, Ts.q_s_rse, Ts.q_s_tri, Ts.q_ss_n, Ts.q_ss_c, Ts.q_tg_x, Ts.q_tg_xs, Ts.q_st_n, Ts.q_st_c, Ts.q_b_add_i, Ts.q_b_add_s, Ts.q_b_add_l, Ts.q_b_add_t, Ts.q_b_sub_i, Ts.q_b_mul_i, Ts.q_b_mul_s, Ts.q_b_fdiv_i, Ts.q_b_mod_i, Ts.q_b_pow_i, Ts.q_c_eq_a, Ts.q_c_ne_a, Ts.q_c_lt_i, Ts.q_c_le_i, Ts.q_c_gt_i, Ts.q_c_ge_i, Ts.q_c_is_b, Ts.q_c_isn_b, Ts.q_c_in__s, Ts.q_c_nin_s, Ts.q_c_in__t_int, Ts.q_c_nin_t_int, Ts.q_c_in__t_str, Ts.q_c_nin_t_str, Ts.q_c_in__t_bl, Ts.q_c_nin_t_bl, Ts.q_c_is_n, Ts.q_c_isn_n, Ts.q_c_in__l, Ts.q_c_nin_l, Ts.q_nn_non, Ts.q_nn_bl, Ts.q_nn_int, Ts.q_nn_str, Ts.q_nn_tup, Ts.q_nn_lst, Ts.q_nn_dct, Ts.q_i_s, Ts.q_i_l, Ts.q_i_t, Ts.q_sl_s, Ts.q_sl_l, Ts.q_sl_t, Ts.q_f_len_s, Ts.q_f_len_l, Ts.q_f_len_t, Ts.q_f_abs, Ts.q_f_int_i, Ts.q_f_int_b, Ts.q_f_str, Ts.q_f_list_l, Ts.q_f_list_t, Ts.q_f_tup_l, Ts.q_f_tup_t, Ts.q_f_sum, Ts.q_f_all, Ts.q_f_any, Ts.q_f_max2, Ts.q_f_min2, Ts.q_f_maxl, Ts.q_f_minl, Ts.q_f_isi, Ts.q_m_join, Ts.q_m_upper, Ts.q_m_lower, Ts.q_m_islower, Ts.q_m_isupper, Ts.q_m_isdigit, Ts.q_m_isalnum, Ts.q_m_split, Ts.q_isstr, Ts.q_ni_non, Ts.q_is_str_non, Ts.q_is_tuple_non, Ts.q_is_int_non, Ts.q_is_bool_non, Ts.q_is_list_non, Ts.q_ni_bl, Ts.q_is_str_bl, Ts.q_is_tuple_bl, Ts.q_is_int_bl, Ts.q_is_bool_bl, Ts.q_is_list_bl, Ts.q_ni_int, Ts.q_is_str_int, Ts.q_is_tuple_int, Ts.q_is_int_int, Ts.q_is_bool_int, Ts.q_is_list_int, Ts.q_ni_str, Ts.q_is_str_str, Ts.q_is_tuple_str, Ts.q_is_int_str, Ts.q_is_bool_str, Ts.q_is_list_str, Ts.q_ni_tup, Ts.q_is_str_tup, Ts.q_is_tuple_tup, Ts.q_is_int_tup, Ts.q_is_bool_tup, Ts.q_is_list_tup, Ts.q_ni_lst, Ts.q_is_str_lst, Ts.q_is_tuple_lst, Ts.q_is_int_lst, Ts.q_is_bool_lst, Ts.q_is_list_lst, Ts.q_ni_dct, Ts.q_is_str_dct, Ts.q_is_tuple_dct, Ts.q_is_int_dct, Ts.q_is_bool_dct, Ts.q_is_list_dct, Ts.q_s_for, Ts.q_s_whl, Ts.q_e_lc, Option.some.injEq, exists_eq_left', exists_eq_left, D.bl.injEq, D.int.injEq, D.str.injEq, D.lst.injEq, D.tup.injEq, Ts.Sl.lst.injEq, List.map_cons, List.map_nil, List.length_cons, List.length_nil, List.getElem?_cons_zero, List.getElem?_cons_succ, List.set_cons_zero, List.set_cons_succ, and_true, true_and, exists_and_left, if_true, if_false, Bool.false_eq_true, reduceIte, reduceCtorEq, Bool.not_true, Bool.not_false]
        exact e _ _ rfl
      | false =>
        rw [hb] at e
        simp only [b__law_row_answer_2, Ts.q_o_v, Ts.q_o_k, Ts.q_o_g, Ts.q_o_bin, Ts.q_o_neg, Ts.q_o_cmp, Ts.q_o_cmp2, Ts.q_o_and, Ts.q_o_or, Ts.q_o_not, Ts.q_o_ite, Ts.q_o_tup, Ts.q_o_lst, Ts.q_o_ix, Ts.q_o_sl, Ts.q_o_call, Ts.q_o_bi, Ts.q_o_mt, Ts.q_o_lc, Ts.q_o_lrng, Ts.q_o_dic, Ts.q_o_dce, Ts.q_o_ise, Ts.q_o_o, Ts.q_od_v, Ts.q_od_o, Ts.q_ods_n, Ts.q_ods_c, Ts.q_sv_v, Ts.q_sv_l, Ts.q_own_l, Ts.q_isl_l, Ts.q_vs_v, Ts.q_vs_l, Ts.q_e_v, Ts.q_e_k, Ts.q_e_g, Ts.q_e_bin, Ts.q_e_neg, Ts.q_e_cmp, Ts.q_e_cmp2, Ts.q_e_and, Ts.q_e_or, Ts.q_e_not, Ts.q_e_ite, Ts.q_e_tup, Ts.q_e_lst, Ts.q_e_ix, Ts.q_e_sl, Ts.q_e_call, Ts.q_e_bi, Ts.q_e_mt, Ts.q_e_dic, Ts.q_e_dce, Ts.q_e_lrng, Ts.q_e_ise, Ts.q_es_n, Ts.q_es_c, Ts.q_os_n, Ts.q_os_c, Ts.q_oe_n, Ts.q_oe_s, Ts.q_if_n, Ts.q_if_s, Ts.q_it_of, Ts.q_it_r1, Ts.q_it_r2, Ts.q_it_en, Ts.q_it_z2, Ts.q_it_z3, Ts.q_nt_l, Ts.q_nt_s, Ts.q_im_s, Ts.q_im_l, Ts.q_im_t, Ts.q_s_set, Ts.q_s_new, Ts.q_s_unp, Ts.q_s_app, Ts.q_s_seti, Ts.q_s_ret, Ts.q_s_retn, Ts.q_s_ife, Ts.q_s_ex, Ts.q_s_pas, Ts.q_s_brk, Ts.q_s_cnt, Ts.q_s_rse, Ts.q_s_tri, Ts.q_ss_n, Ts.q_ss_c, Ts.q_tg_x, Ts.q_tg_xs, Ts.q_st_n, Ts.q_st_c, Ts.q_b_add_i, Ts.q_b_add_s, Ts.q_b_add_l, Ts.q_b_add_t, Ts.q_b_sub_i, Ts.q_b_mul_i, Ts.q_b_mul_s, Ts.q_b_fdiv_i, Ts.q_b_mod_i, Ts.q_b_pow_i, Ts.q_c_eq_a, Ts.q_c_ne_a, Ts.q_c_lt_i, Ts.q_c_le_i, Ts.q_c_gt_i, Ts.q_c_ge_i, Ts.q_c_is_b, Ts.q_c_isn_b, Ts.q_c_in__s, Ts.q_c_nin_s, Ts.q_c_in__t_int, Ts.q_c_nin_t_int, Ts.q_c_in__t_str, Ts.q_c_nin_t_str, Ts.q_c_in__t_bl, Ts.q_c_nin_t_bl, Ts.q_c_is_n, Ts.q_c_isn_n, Ts.q_c_in__l, Ts.q_c_nin_l, Ts.q_nn_non, Ts.q_nn_bl, Ts.q_nn_int, Ts.q_nn_str, Ts.q_nn_tup, Ts.q_nn_lst, Ts.q_nn_dct, Ts.q_i_s, Ts.q_i_l, Ts.q_i_t, Ts.q_sl_s, Ts.q_sl_l, Ts.q_sl_t, Ts.q_f_len_s, Ts.q_f_len_l, Ts.q_f_len_t, Ts.q_f_abs, Ts.q_f_int_i, Ts.q_f_int_b, Ts.q_f_str, Ts.q_f_list_l, Ts.q_f_list_t, Ts.q_f_tup_l, Ts.q_f_tup_t, Ts.q_f_sum, Ts.q_f_all, Ts.q_f_any, Ts.q_f_max2, Ts.q_f_min2, Ts.q_f_maxl, Ts.q_f_minl, Ts.q_f_isi, Ts.q_m_join, Ts.q_m_upper, Ts.q_m_lower, Ts.q_m_islower, Ts.q_m_isupper, Ts.q_m_isdigit, Ts.q_m_isalnum, Ts.q_m_split, Ts.q_isstr, Ts.q_ni_non, Ts.q_is_str_non, Ts.q_is_tuple_non, Ts.q_is_int_non, Ts.q_is_bool_non, Ts.q_is_list_non, Ts.q_ni_bl, Ts.q_is_str_bl, Ts.q_is_tuple_bl, Ts.q_is_int_bl, Ts.q_is_bool_bl, Ts.q_is_list_bl, Ts.q_ni_int, Ts.q_is_str_int, Ts.q_is_tuple_int, Ts.q_is_int_int, Ts.q_is_bool_int, Ts.q_is_list_int, Ts.q_ni_str, Ts.q_is_str_str, Ts.q_is_tuple_str, Ts.q_is_int_str, Ts.q_is_bool_str, Ts.q_is_list_str, Ts.q_ni_tup, Ts.q_is_str_tup, Ts.q_is_tuple_tup, Ts.q_is_int_tup, Ts.q_is_bool_tup, Ts.q_is_list_tup, Ts.q_ni_lst, Ts.q_is_str_lst, Ts.q_is_tuple_lst, Ts.q_is_int_lst, Ts.q_is_bool_lst, Ts.q_is_list_lst, Ts.q_ni_dct, Ts.q_is_str_dct, Ts.q_is_tuple_dct, Ts.q_is_int_dct, Ts.q_is_bool_dct, Ts.q_is_list_dct, Ts.q_s_for, Ts.q_s_whl, Ts.q_e_lc, Option.some.injEq, exists_eq_left', exists_eq_left, D.bl.injEq, D.int.injEq, D.str.injEq, D.lst.injEq, D.tup.injEq, Ts.Sl.lst.injEq, List.map_cons, List.map_nil, List.length_cons, List.length_nil, List.getElem?_cons_zero, List.getElem?_cons_succ, List.set_cons_zero, List.set_cons_succ, and_true, true_and, exists_and_left, if_true, if_false, Bool.false_eq_true, reduceIte, reduceCtorEq, Bool.not_true, Bool.not_false]
        have hm : (r.map fun p => dT (ans p t)) = (r.map fun p => (ans p t).getD []).map D.str := by
          rw [List.map_map]
          apply List.map_congr_left
          intro p hp
          rw [List.any_map, List.any_eq_false] at hb
          have := hb p hp
          cases h : ans p t with
          | none => exact absurd (by show (ans p t).isNone = true; rw [h]; rfl) this
          | some s =>
            show D.str s = D.str ((ans p t).getD [])
            rw [h]; rfl
        rw [hm]
        refine ⟨_, strs_map _, ?_, ?_⟩
        · have := sum_le (ss := r.map fun p => (ans p t).getD []) (n := 24) fun s hs => by
            obtain ⟨p, hp, rfl⟩ := List.mem_map.mp hs
            cases h : ans p t with
            | none => show 0 ≤ 24; omega
            | some s =>
              have := ans_len (hr p hp) h
              show s.length ≤ 24
              omega
          rw [List.length_map] at this ⊢
          show _ + r.length * 0 ≤ 16777216
          omega
        · rw [join_nil]
          exact e _ _ rfl
/-! ### texts, words, pieces drawn -/
def LS : List (List Nat) := [SMALL, GREAT, FIGS, [32, 45, 46, 44, 47]]
theorem ls_ok : ∀ s ∈ LS, 0 < s.length ∧ s.length ≤ 26 ∧ ∀ c ∈ s, c ∈ SIGNS := by decide +kernel
abbrev sp_text2 : PSpec := sp_text
open Builtin.Int in
def m_text2 : Sm := { fn := [], cn := [] }
open Builtin.Int in
theorem w_text2 (g : Int × Int) (ds : List D) (hl : ds.length = 2) (hp : sp_text.pre g ds) : wpSs m_text2 b__law_text__2 (rho0 7 ds) (pt sp_text g) := by
  obtain ⟨c, m⟩ := g
  obtain ⟨rfl, m0, m1⟩ := hp
  have m0 : 0 ≤ m := m0
  have m1 : m ≤ 100 := m1
  have e : ∀ (s : List Nat) ρ, Tx s → (s.length : Int) ≤ m → (pt sp_text (c, m)).rt (.str s) ρ := fun s ρ h0 h1 => ⟨s, rfl, h0, h1⟩
  rw [show rho0 7 [D.int c, D.int m] = [.val (.int c), .val (.int m), .no, .no, .no, .no, .no] from rfl]
  generalize pt sp_text (c, m) = P at e ⊢
  simp only [b__law_text__2, b__law_text__2_1, b__law_text__2_2, b__law_text__2_3, b__law_text__2_4, m_text2, Ts.q_o_v, Ts.q_o_k, Ts.q_o_g, Ts.q_o_bin, Ts.q_o_neg, Ts.q_o_cmp, Ts.q_o_cmp2, Ts.q_o_and, Ts.q_o_or, Ts.q_o_not, Ts.q_o_ite, Ts.q_o_tup, Ts.q_o_lst, Ts.q_o_ix, Ts.q_o_sl, Ts.q_o_call, Ts.q_o_bi, Ts.q_o_mt, Ts.q_o_lc, Ts.q_o_lrng, Ts.q_o_dic, Ts.q_o_dce, Ts.q_o_ise, Ts.q_o_o, Ts.q_od_v, Ts.q_od_o, Ts.q_ods_n, Ts.q_ods_c, Ts.q_sv_v, Ts.q_sv_l, Ts.q_own_l, Ts.q_isl_l, Ts.q_vs_v, Ts.q_vs_l, Ts.q_e_v, Ts.q_e_k, Ts.q_e_g, Ts.q_e_bin, Ts.q_e_neg, Ts.q_e_cmp, Ts.q_e_cmp2, Ts.q_e_and, Ts.q_e_or, Ts.q_e_not, Ts.q_e_ite, Ts.q_e_tup, Ts.q_e_lst, Ts.q_e_ix, Ts.q_e_sl, Ts.q_e_call, Ts.q_e_bi, Ts.q_e_mt, Ts.q_e_dic, Ts.q_e_dce, Ts.q_e_lrng, Ts.q_e_ise, Ts.q_es_n, Ts.q_es_c, Ts.q_os_n, Ts.q_os_c, Ts.q_oe_n, Ts.q_oe_s, Ts.q_if_n, Ts.q_if_s, Ts.q_it_of, Ts.q_it_r1, Ts.q_it_r2, Ts.q_it_en, Ts.q_it_z2, Ts.q_it_z3, Ts.q_nt_l, Ts.q_nt_s, Ts.q_im_s, Ts.q_im_l, Ts.q_im_t, Ts.q_s_set, Ts.q_s_new, Ts.q_s_unp, Ts.q_s_app, Ts.q_s_seti, Ts.q_s_ret, Ts.q_s_retn, Ts.q_s_ife, Ts.q_s_ex, Ts.q_s_pas, Ts.q_s_brk, Ts.q_s_cnt, Ts.q_s_rse, Ts.q_s_tri, Ts.q_ss_n, Ts.q_ss_c, Ts.q_tg_x, Ts.q_tg_xs, Ts.q_st_n, Ts.q_st_c, Ts.q_b_add_i, Ts.q_b_add_s, Ts.q_b_add_l, Ts.q_b_add_t, Ts.q_b_sub_i, Ts.q_b_mul_i, Ts.q_b_mul_s, Ts.q_b_fdiv_i, Ts.q_b_mod_i, Ts.q_b_pow_i, Ts.q_c_eq_a, Ts.q_c_ne_a, Ts.q_c_lt_i, Ts.q_c_le_i, Ts.q_c_gt_i, Ts.q_c_ge_i, Ts.q_c_is_b, Ts.q_c_isn_b, Ts.q_c_in__s, Ts.q_c_nin_s, Ts.q_c_in__t_int, Ts.q_c_nin_t_int, Ts.q_c_in__t_str, Ts.q_c_nin_t_str, Ts.q_c_in__t_bl, Ts.q_c_nin_t_bl, Ts.q_c_is_n, Ts.q_c_isn_n, Ts.q_c_in__l, Ts.q_c_nin_l, Ts.q_nn_non, Ts.q_nn_bl, Ts.q_nn_int, Ts.q_nn_str, Ts.q_nn_tup, Ts.q_nn_lst, Ts.q_nn_dct, Ts.q_i_s, Ts.q_i_l, Ts.q_i_t, Ts.q_sl_s, Ts.q_sl_l, Ts.q_sl_t, Ts.q_f_len_s, Ts.q_f_len_l, Ts.q_f_len_t, Ts.q_f_abs, Ts.q_f_int_i, Ts.q_f_int_b, Ts.q_f_str, Ts.q_f_list_l, Ts.q_f_list_t, Ts.q_f_tup_l, Ts.q_f_tup_t, Ts.q_f_sum, Ts.q_f_all, Ts.q_f_any, Ts.q_f_max2, Ts.q_f_min2, Ts.q_f_maxl, Ts.q_f_minl, Ts.q_f_isi, Ts.q_m_join, Ts.q_m_upper, Ts.q_m_lower, Ts.q_m_islower, Ts.q_m_isupper, Ts.q_m_isdigit, Ts.q_m_isalnum, Ts.q_m_split, Ts.q_isstr, Ts.q_ni_non, Ts.q_is_str_non, Ts.q_is_tuple_non, Ts.q_is_int_non, Ts.q_is_bool_non, Ts.q_is_list_non, Ts.q_ni_bl, Ts.q_is_str_bl, Ts.q_is_tuple_bl, Ts.q_is_int_bl, Ts.q_is_bool_bl, Ts.q_is_list_bl, Ts.q_ni_int, Ts.q_is_str_int, Ts.q_is_tuple_int, Ts.q_is_int_int, Ts.q_is_bool_int, Ts.q_is_list_int, Ts.q_ni_str, Ts.q_is_str_str, Ts.q_is_tuple_str, Ts.q_is_int_str, Ts.q_is_bool_str, Ts.q_is_list_str, Ts.q_ni_tup, Ts.q_is_str_tup, Ts.q_is_tuple_tup, Ts.q_is_int_tup, Ts.q_is_bool_tup, Ts.q_is_list_tup, Ts.q_ni_lst, Ts.q_is_str_lst, Ts.q_is_tuple_lst, Ts.q_is_int_lst, Ts.q_is_bool_lst, Ts.q_is_list_lst, Ts.q_ni_dct, Ts.q_is_str_dct, Ts.q_is_tuple_dct, Ts.q_is_int_dct, Ts.q_is_bool_dct, Ts.q_is_list_dct, Ts.q_s_for, Ts.q_s_whl, Ts.q_e_lc, Option.some.injEq, exists_eq_left', exists_eq_left, D.bl.injEq, D.int.injEq, D.str.injEq, D.lst.injEq, D.tup.injEq, Ts.Sl.lst.injEq, List.map_cons, List.map_nil, List.length_cons, List.length_nil, List.getElem?_cons_zero, List.getElem?_cons_succ, List.set_cons_zero, List.set_cons_succ, and_true, true_and, exists_and_left, if_true, if_false, Bool.false_eq_true, reduceIte, reduceCtorEq, Bool.not_true, Bool.not_false]
  have z0 : 0 ≤ c % (m + 1) := Int.emod_nonneg _ (by omega)
  have z1 : c % (m + 1) < m + 1 := Int.emod_lt_of_pos _ (by omega)
  refine ⟨by decide, by omega, ⟨by decide, by decide⟩, by decide, ⟨by omega, by omega⟩, ?_⟩
  refine for_in (fun i ρ => ∃ x s k x6, ρ = [.val (.int x), .val (.int m), .val (.lst (LS.map D.str)), .val (.int (c % (m + 1))), .val (.str s), k, x6] ∧ Rn 2147483647 x ∧ Tx s ∧ s.length = i) ⟨_, [], .no, .no, rfl, ⟨Int.emod_nonneg _ (by decide), Int.emod_lt_of_pos _ (by decide)⟩, (fun c hc => by cases hc), rfl⟩ (fun i d ρ hd hI => ?_) (fun ρ hI => ?_)
  · obtain ⟨x, s, k, x6, rfl, hx, ht, hl⟩ := hI
    have hi : i < (c % (m + 1)).toNat := by
      have := (List.getElem?_eq_some_iff.mp hd).1
      rw [rng_len] at this
      omega
    rw [rng_get _ _ i (by omega)] at hd
    cases hd
    have hxb : intBits x ≤ 31 := bits_nat hx.1 (Int.lt_trans hx.2 (by decide))
    simp only [b__law_text__2_L1, b__law_text__2_L1_1, b__law_text__2_L1_2, Ts.q_o_v, Ts.q_o_k, Ts.q_o_g, Ts.q_o_bin, Ts.q_o_neg, Ts.q_o_cmp, Ts.q_o_cmp2, Ts.q_o_and, Ts.q_o_or, Ts.q_o_not, Ts.q_o_ite, Ts.q_o_tup, Ts.q_o_lst, Ts.q_o_ix, Ts.q_o_sl, Ts.q_o_call, Ts.q_o_bi, Ts.q_o_mt, Ts.q_o_lc, Ts.q_o_lrng, Ts.q_o_dic, Ts.q_o_dce, Ts.q_o_ise, Ts.q_o_o, Ts.q_od_v, Ts.q_od_o, Ts.q_ods_n, Ts.q_ods_c, Ts.q_sv_v, Ts.q_sv_l, Ts.q_own_l, Ts.q_isl_l, Ts.q_vs_v, Ts.q_vs_l, Ts.q_e_v, Ts.q_e_k, Ts.q_e_g, Ts.q_e_bin, Ts.q_e_neg, Ts.q_e_cmp, Ts.q_e_cmp2, Ts.q_e_and, Ts.q_e_or, Ts.q_e_not, Ts.q_e_ite, Ts.q_e_tup, Ts.q_e_lst, Ts.q_e_ix, Ts.q_e_sl, Ts.q_e_call, Ts.q_e_bi, Ts.q_e_mt, Ts.q_e_dic, Ts.q_e_dce, Ts.q_e_lrng, Ts.q_e_ise, Ts.q_es_n, Ts.q_es_c, Ts.q_os_n, Ts.q_os_c, Ts.q_oe_n, Ts.q_oe_s, Ts.q_if_n, Ts.q_if_s, Ts.q_it_of, Ts.q_it_r1, Ts.q_it_r2, Ts.q_it_en, Ts.q_it_z2, Ts.q_it_z3, Ts.q_nt_l, Ts.q_nt_s, Ts.q_im_s, Ts.q_im_l, Ts.q_im_t, Ts.q_s_set, Ts.q_s_new, Ts.q_s_unp, Ts.q_s_app, Ts.q_s_seti, Ts.q_s_ret, Ts.q_s_retn, Ts.q_s_ife, Ts.q_s_ex, Ts.q_s_pas, Ts.q_s_brk, Ts.q_s_cnt, Ts.q_s_rse, Ts.q_s_tri, Ts.q_ss_n, Ts.q_ss_c, Ts.q_tg_x, Ts.q_tg_xs, Ts.q_st_n, Ts.q_st_c, Ts.q_b_add_i, Ts.q_b_add_s, Ts.q_b_add_l, Ts.q_b_add_t, Ts.q_b_sub_i, Ts.q_b_mul_i, Ts.q_b_mul_s, Ts.q_b_fdiv_i, Ts.q_b_mod_i, Ts.q_b_pow_i, Ts.q_c_eq_a, Ts.q_c_ne_a, Ts.q_c_lt_i, Ts.q_c_le_i, Ts.q_c_gt_i, Ts.q_c_ge_i, Ts.q_c_is_b, Ts.q_c_isn_b, Ts.q_c_in__s, Ts.q_c_nin_s, Ts.q_c_in__t_int, Ts.q_c_nin_t_int, Ts.q_c_in__t_str, Ts.q_c_nin_t_str, Ts.q_c_in__t_bl, Ts.q_c_nin_t_bl, Ts.q_c_is_n, Ts.q_c_isn_n, Ts.q_c_in__l, Ts.q_c_nin_l, Ts.q_nn_non, Ts.q_nn_bl, Ts.q_nn_int, Ts.q_nn_str, Ts.q_nn_tup, Ts.q_nn_lst, Ts.q_nn_dct, Ts.q_i_s, Ts.q_i_l, Ts.q_i_t, Ts.q_sl_s, Ts.q_sl_l, Ts.q_sl_t, Ts.q_f_len_s, Ts.q_f_len_l, Ts.q_f_len_t, Ts.q_f_abs, Ts.q_f_int_i, Ts.q_f_int_b, Ts.q_f_str, Ts.q_f_list_l, Ts.q_f_list_t, Ts.q_f_tup_l, Ts.q_f_tup_t, Ts.q_f_sum, Ts.q_f_all, Ts.q_f_any, Ts.q_f_max2, Ts.q_f_min2, Ts.q_f_maxl, Ts.q_f_minl, Ts.q_f_isi, Ts.q_m_join, Ts.q_m_upper, Ts.q_m_lower, Ts.q_m_islower, Ts.q_m_isupper, Ts.q_m_isdigit, Ts.q_m_isalnum, Ts.q_m_split, Ts.q_isstr, Ts.q_ni_non, Ts.q_is_str_non, Ts.q_is_tuple_non, Ts.q_is_int_non, Ts.q_is_bool_non, Ts.q_is_list_non, Ts.q_ni_bl, Ts.q_is_str_bl, Ts.q_is_tuple_bl, Ts.q_is_int_bl, Ts.q_is_bool_bl, Ts.q_is_list_bl, Ts.q_ni_int, Ts.q_is_str_int, Ts.q_is_tuple_int, Ts.q_is_int_int, Ts.q_is_bool_int, Ts.q_is_list_int, Ts.q_ni_str, Ts.q_is_str_str, Ts.q_is_tuple_str, Ts.q_is_int_str, Ts.q_is_bool_str, Ts.q_is_list_str, Ts.q_ni_tup, Ts.q_is_str_tup, Ts.q_is_tuple_tup, Ts.q_is_int_tup, Ts.q_is_bool_tup, Ts.q_is_list_tup, Ts.q_ni_lst, Ts.q_is_str_lst, Ts.q_is_tuple_lst, Ts.q_is_int_lst, Ts.q_is_bool_lst, Ts.q_is_list_lst, Ts.q_ni_dct, Ts.q_is_str_dct, Ts.q_is_tuple_dct, Ts.q_is_int_dct, Ts.q_is_bool_dct, Ts.q_is_list_dct, Ts.q_s_for, Ts.q_s_whl, Ts.q_e_lc, Option.some.injEq, exists_eq_left', exists_eq_left, D.bl.injEq, D.int.injEq, D.str.injEq, D.lst.injEq, D.tup.injEq, Ts.Sl.lst.injEq, List.map_cons, List.map_nil, List.length_cons, List.length_nil, List.getElem?_cons_zero, List.getElem?_cons_succ, List.set_cons_zero, List.set_cons_succ, and_true, true_and, exists_and_left, if_true, if_false, Bool.false_eq_true, reduceIte, reduceCtorEq, Bool.not_true, Bool.not_false]
    refine ⟨mul_ok hxb (bits_nat (m := 64) (by decide) (by decide)) (by decide), mul_ok (bits_nat (m := 64) (by decide) (by decide)) (bits_nat (m := 64) (by omega) (by omega)) (by decide), by decide, ?_⟩
    generalize hy : (x * 48271 + 11 * (0 + (i : Int)) + 7) % 2147483647 = y
    have hyr : Rn 2147483647 y := by rw [← hy]; exact ⟨Int.emod_nonneg _ (by decide), Int.emod_lt_of_pos _ (by decide)⟩
    obtain ⟨sg, e1, hs⟩ := pickD (xs := LS) D.str (L := LS.map D.str) rfl (y / 16) 4 rfl (by decide)
    obtain ⟨s0, s1, s2⟩ := ls_ok sg hs
    refine ⟨⟨by decide, by decide⟩, by decide, .str sg, e1, ?_⟩
    simp only [Ts.q_o_v, Ts.q_o_k, Ts.q_o_g, Ts.q_o_bin, Ts.q_o_neg, Ts.q_o_cmp, Ts.q_o_cmp2, Ts.q_o_and, Ts.q_o_or, Ts.q_o_not, Ts.q_o_ite, Ts.q_o_tup, Ts.q_o_lst, Ts.q_o_ix, Ts.q_o_sl, Ts.q_o_call, Ts.q_o_bi, Ts.q_o_mt, Ts.q_o_lc, Ts.q_o_lrng, Ts.q_o_dic, Ts.q_o_dce, Ts.q_o_ise, Ts.q_o_o, Ts.q_od_v, Ts.q_od_o, Ts.q_ods_n, Ts.q_ods_c, Ts.q_sv_v, Ts.q_sv_l, Ts.q_own_l, Ts.q_isl_l, Ts.q_vs_v, Ts.q_vs_l, Ts.q_e_v, Ts.q_e_k, Ts.q_e_g, Ts.q_e_bin, Ts.q_e_neg, Ts.q_e_cmp, Ts.q_e_cmp2, Ts.q_e_and, Ts.q_e_or, Ts.q_e_not, Ts.q_e_ite, Ts.q_e_tup, Ts.q_e_lst, Ts.q_e_ix, Ts.q_e_sl, Ts.q_e_call, Ts.q_e_bi, Ts.q_e_mt, Ts.q_e_dic, Ts.q_e_dce, Ts.q_e_lrng, Ts.q_e_ise, Ts.q_es_n, Ts.q_es_c, Ts.q_os_n, Ts.q_os_c, Ts.q_oe_n, Ts.q_oe_s, Ts.q_if_n, Ts.q_if_s, Ts.q_it_of, Ts.q_it_r1, Ts.q_it_r2, Ts.q_it_en, Ts.q_it_z2, Ts.q_it_z3, Ts.q_nt_l, Ts.q_nt_s, Ts.q_im_s, Ts.q_im_l, Ts.q_im_t, Ts.q_s_set, Ts.q_s_new, Ts.q_s_unp, Ts.q_s_app, Ts.q_s_seti, Ts.q_s_ret, Ts.q_s_retn, Ts.q_s_ife, Ts.q_s_ex, Ts.q_s_pas, Ts.q_s_brk, Ts.q_s_cnt, Ts.q_s_rse, Ts.q_s_tri, Ts.q_ss_n, Ts.q_ss_c, Ts.q_tg_x, Ts.q_tg_xs, Ts.q_st_n, Ts.q_st_c, Ts.q_b_add_i, Ts.q_b_add_s, Ts.q_b_add_l, Ts.q_b_add_t, Ts.q_b_sub_i, Ts.q_b_mul_i, Ts.q_b_mul_s, Ts.q_b_fdiv_i, Ts.q_b_mod_i, Ts.q_b_pow_i, Ts.q_c_eq_a, Ts.q_c_ne_a, Ts.q_c_lt_i, Ts.q_c_le_i, Ts.q_c_gt_i, Ts.q_c_ge_i, Ts.q_c_is_b, Ts.q_c_isn_b, Ts.q_c_in__s, Ts.q_c_nin_s, Ts.q_c_in__t_int, Ts.q_c_nin_t_int, Ts.q_c_in__t_str, Ts.q_c_nin_t_str, Ts.q_c_in__t_bl, Ts.q_c_nin_t_bl, Ts.q_c_is_n, Ts.q_c_isn_n, Ts.q_c_in__l, Ts.q_c_nin_l, Ts.q_nn_non, Ts.q_nn_bl, Ts.q_nn_int, Ts.q_nn_str, Ts.q_nn_tup, Ts.q_nn_lst, Ts.q_nn_dct, Ts.q_i_s, Ts.q_i_l, Ts.q_i_t, Ts.q_sl_s, Ts.q_sl_l, Ts.q_sl_t, Ts.q_f_len_s, Ts.q_f_len_l, Ts.q_f_len_t, Ts.q_f_abs, Ts.q_f_int_i, Ts.q_f_int_b, Ts.q_f_str, Ts.q_f_list_l, Ts.q_f_list_t, Ts.q_f_tup_l, Ts.q_f_tup_t, Ts.q_f_sum, Ts.q_f_all, Ts.q_f_any, Ts.q_f_max2, Ts.q_f_min2, Ts.q_f_maxl, Ts.q_f_minl, Ts.q_f_isi, Ts.q_m_join, Ts.q_m_upper, Ts.q_m_lower, Ts.q_m_islower, Ts.q_m_isupper, Ts.q_m_isdigit, Ts.q_m_isalnum, Ts.q_m_split, Ts.q_isstr, Ts.q_ni_non, Ts.q_is_str_non, Ts.q_is_tuple_non, Ts.q_is_int_non, Ts.q_is_bool_non, Ts.q_is_list_non, Ts.q_ni_bl, Ts.q_is_str_bl, Ts.q_is_tuple_bl, Ts.q_is_int_bl, Ts.q_is_bool_bl, Ts.q_is_list_bl, Ts.q_ni_int, Ts.q_is_str_int, Ts.q_is_tuple_int, Ts.q_is_int_int, Ts.q_is_bool_int, Ts.q_is_list_int, Ts.q_ni_str, Ts.q_is_str_str, Ts.q_is_tuple_str, Ts.q_is_int_str, Ts.q_is_bool_str, Ts.q_is_list_str, Ts.q_ni_tup, Ts.q_is_str_tup, Ts.q_is_tuple_tup, Ts.q_is_int_tup, Ts.q_is_bool_tup, Ts.q_is_list_tup, Ts.q_ni_lst, Ts.q_is_str_lst, Ts.q_is_tuple_lst, Ts.q_is_int_lst, Ts.q_is_bool_lst, Ts.q_is_list_lst, Ts.q_ni_dct, Ts.q_is_str_dct, Ts.q_is_tuple_dct, Ts.q_is_int_dct, Ts.q_is_bool_dct, Ts.q_is_list_dct, Ts.q_s_for, Ts.q_s_whl, Ts.q_e_lc, Option.some.injEq, exists_eq_left', exists_eq_left, D.bl.injEq, D.int.injEq, D.str.injEq, D.lst.injEq, D.tup.injEq, Ts.Sl.lst.injEq, List.map_cons, List.map_nil, List.length_cons, List.length_nil, List.getElem?_cons_zero, List.getElem?_cons_succ, List.set_cons_zero, List.set_cons_succ, and_true, true_and, exists_and_left, if_true, if_false, Bool.false_eq_true, reduceIte, reduceCtorEq, Bool.not_true, Bool.not_false]
    obtain ⟨v, e2, hv⟩ := pick (xs := sg) (y / 64) sg.length rfl (by omega)
    refine ⟨⟨by decide, by decide⟩, by show sg.length ≤ 16777216; omega, by omega, by show sg.length ≤ 16777216; omega, v, e2, ?_⟩
    refine ⟨by show s.length + 1 ≤ 16777216; omega, y, s ++ [v], _, _, rfl, hyr, fun q hq => ?_, by simp [hl]⟩
    rcases List.mem_append.mp hq with hq | hq
    · exact ht q hq
    · rw [List.mem_singleton.mp hq]; exact s2 v hv
  · obtain ⟨x, s, k, x6, rfl, hx, ht, hl⟩ := hI
    simp only [b__law_text__2_5, Ts.q_o_v, Ts.q_o_k, Ts.q_o_g, Ts.q_o_bin, Ts.q_o_neg, Ts.q_o_cmp, Ts.q_o_cmp2, Ts.q_o_and, Ts.q_o_or, Ts.q_o_not, Ts.q_o_ite, Ts.q_o_tup, Ts.q_o_lst, Ts.q_o_ix, Ts.q_o_sl, Ts.q_o_call, Ts.q_o_bi, Ts.q_o_mt, Ts.q_o_lc, Ts.q_o_lrng, Ts.q_o_dic, Ts.q_o_dce, Ts.q_o_ise, Ts.q_o_o, Ts.q_od_v, Ts.q_od_o, Ts.q_ods_n, Ts.q_ods_c, Ts.q_sv_v, Ts.q_sv_l, Ts.q_own_l, Ts.q_isl_l, Ts.q_vs_v, Ts.q_vs_l, Ts.q_e_v, Ts.q_e_k, Ts.q_e_g, Ts.q_e_bin, Ts.q_e_neg, Ts.q_e_cmp, Ts.q_e_cmp2, Ts.q_e_and, Ts.q_e_or, Ts.q_e_not, Ts.q_e_ite, Ts.q_e_tup, Ts.q_e_lst, Ts.q_e_ix, Ts.q_e_sl, Ts.q_e_call, Ts.q_e_bi, Ts.q_e_mt, Ts.q_e_dic, Ts.q_e_dce, Ts.q_e_lrng, Ts.q_e_ise, Ts.q_es_n, Ts.q_es_c, Ts.q_os_n, Ts.q_os_c, Ts.q_oe_n, Ts.q_oe_s, Ts.q_if_n, Ts.q_if_s, Ts.q_it_of, Ts.q_it_r1, Ts.q_it_r2, Ts.q_it_en, Ts.q_it_z2, Ts.q_it_z3, Ts.q_nt_l, Ts.q_nt_s, Ts.q_im_s, Ts.q_im_l, Ts.q_im_t, Ts.q_s_set, Ts.q_s_new, Ts.q_s_unp, Ts.q_s_app, Ts.q_s_seti, Ts.q_s_ret, Ts.q_s_retn, Ts.q_s_ife, Ts.q_s_ex, Ts.q_s_pas, Ts.q_s_brk, Ts.q_s_cnt, Ts.q_s_rse, Ts.q_s_tri, Ts.q_ss_n, Ts.q_ss_c, Ts.q_tg_x, Ts.q_tg_xs, Ts.q_st_n, Ts.q_st_c, Ts.q_b_add_i, Ts.q_b_add_s, Ts.q_b_add_l, Ts.q_b_add_t, Ts.q_b_sub_i, Ts.q_b_mul_i, Ts.q_b_mul_s, Ts.q_b_fdiv_i, Ts.q_b_mod_i, Ts.q_b_pow_i, Ts.q_c_eq_a, Ts.q_c_ne_a, Ts.q_c_lt_i, Ts.q_c_le_i, Ts.q_c_gt_i, Ts.q_c_ge_i, Ts.q_c_is_b, Ts.q_c_isn_b, Ts.q_c_in__s, Ts.q_c_nin_s, Ts.q_c_in__t_int, Ts.q_c_nin_t_int, Ts.q_c_in__t_str, Ts.q_c_nin_t_str, Ts.q_c_in__t_bl, Ts.q_c_nin_t_bl, Ts.q_c_is_n, Ts.q_c_isn_n, Ts.q_c_in__l, Ts.q_c_nin_l, Ts.q_nn_non, Ts.q_nn_bl, Ts.q_nn_int, Ts.q_nn_str, Ts.q_nn_tup, Ts.q_nn_lst, Ts.q_nn_dct, Ts.q_i_s, Ts.q_i_l, Ts.q_i_t, Ts.q_sl_s, Ts.q_sl_l, Ts.q_sl_t, Ts.q_f_len_s, Ts.q_f_len_l, Ts.q_f_len_t, Ts.q_f_abs, Ts.q_f_int_i, Ts.q_f_int_b, Ts.q_f_str, Ts.q_f_list_l, Ts.q_f_list_t, Ts.q_f_tup_l, Ts.q_f_tup_t, Ts.q_f_sum, Ts.q_f_all, Ts.q_f_any, Ts.q_f_max2, Ts.q_f_min2, Ts.q_f_maxl, Ts.q_f_minl, Ts.q_f_isi, Ts.q_m_join, Ts.q_m_upper, Ts.q_m_lower, Ts.q_m_islower, Ts.q_m_isupper, Ts.q_m_isdigit, Ts.q_m_isalnum, Ts.q_m_split, Ts.q_isstr, Ts.q_ni_non, Ts.q_is_str_non, Ts.q_is_tuple_non, Ts.q_is_int_non, Ts.q_is_bool_non, Ts.q_is_list_non, Ts.q_ni_bl, Ts.q_is_str_bl, Ts.q_is_tuple_bl, Ts.q_is_int_bl, Ts.q_is_bool_bl, Ts.q_is_list_bl, Ts.q_ni_int, Ts.q_is_str_int, Ts.q_is_tuple_int, Ts.q_is_int_int, Ts.q_is_bool_int, Ts.q_is_list_int, Ts.q_ni_str, Ts.q_is_str_str, Ts.q_is_tuple_str, Ts.q_is_int_str, Ts.q_is_bool_str, Ts.q_is_list_str, Ts.q_ni_tup, Ts.q_is_str_tup, Ts.q_is_tuple_tup, Ts.q_is_int_tup, Ts.q_is_bool_tup, Ts.q_is_list_tup, Ts.q_ni_lst, Ts.q_is_str_lst, Ts.q_is_tuple_lst, Ts.q_is_int_lst, Ts.q_is_bool_lst, Ts.q_is_list_lst, Ts.q_ni_dct, Ts.q_is_str_dct, Ts.q_is_tuple_dct, Ts.q_is_int_dct, Ts.q_is_bool_dct, Ts.q_is_list_dct, Ts.q_s_for, Ts.q_s_whl, Ts.q_e_lc, Option.some.injEq, exists_eq_left', exists_eq_left, D.bl.injEq, D.int.injEq, D.str.injEq, D.lst.injEq, D.tup.injEq, Ts.Sl.lst.injEq, List.map_cons, List.map_nil, List.length_cons, List.length_nil, List.getElem?_cons_zero, List.getElem?_cons_succ, List.set_cons_zero, List.set_cons_succ, and_true, true_and, exists_and_left, if_true, if_false, Bool.false_eq_true, reduceIte, reduceCtorEq, Bool.not_true, Bool.not_false]
    rw [rng_len] at hl
    exact e s _ ht (by omega)
def WL : List (List Nat) := [[101, 108, 115, 101], [100, 111], [119, 111, 114, 100], [105, 102], [99, 111, 112, 121], [104, 97, 115], [97, 110, 121, 32, 49], [32], [97, 32], [32, 55], [115, 105, 110, 107], [97, 104, 101, 97, 100]]
theorem wl_ok : ∀ w ∈ WL, (∀ c ∈ w, c ∈ SIGNS) ∧ 1 ≤ w.length ∧ w.length ≤ 8 := by decide +kernel
def WO : List (List Nat) := [[97], [90], [52], [44], [32]]
theorem wo_ok : ∀ w ∈ WO, (∀ c ∈ w, c ∈ SIGNS) ∧ 1 ≤ w.length ∧ w.length ≤ 8 := by decide +kernel
def sp_word : PSpec := { ar := 2, G := Int, pre := fun g ds => ds = [.int g, .int 8], ret := fun _ r => ∃ w, r = .str w ∧ Wd w }
theorem x_word {g c} : sp_word.exc g c = False := rfl
theorem r_word {g} {Φ : D → Prop} : (∀ d, sp_word.ret g d → Φ d) = ∀ w : List Nat, Wd w → Φ (.str w) := propext ⟨fun h c h0 => h _ ⟨c, rfl, h0⟩, fun h d ⟨c, e, h0⟩ => by rw [e]; exact h c h0⟩
def m_word : Sm := { fn := [sp_text], cn := [] }
theorem w_word (c : Int) (ds : List D) (hl : ds.length = 2) (hp : sp_word.pre c ds) : wpSs m_word b__law_word (rho0 4 ds) (pt sp_word c) := by
  have hp : ds = [.int c, .int 8] := hp
  subst hp
  have e : ∀ (w : List Nat) ρ, Wd w → (pt sp_word c).rt (.str w) ρ := fun w ρ h => ⟨w, rfl, h⟩
  rw [show rho0 4 [D.int c, D.int 8] = [.val (.int c), .val (.int 8), .no, .no] from rfl]
  generalize pt sp_word c = P at e ⊢
  simp only [b__law_word, b__law_word_1, m_word, eq_int, Ts.q_o_v, Ts.q_o_k, Ts.q_o_g, Ts.q_o_bin, Ts.q_o_neg, Ts.q_o_cmp, Ts.q_o_cmp2, Ts.q_o_and, Ts.q_o_or, Ts.q_o_not, Ts.q_o_ite, Ts.q_o_tup, Ts.q_o_lst, Ts.q_o_ix, Ts.q_o_sl, Ts.q_o_call, Ts.q_o_bi, Ts.q_o_mt, Ts.q_o_lc, Ts.q_o_lrng, Ts.q_o_dic, Ts.q_o_dce, Ts.q_o_ise, Ts.q_o_o, Ts.q_od_v, Ts.q_od_o, Ts.q_ods_n, Ts.q_ods_c, Ts.q_sv_v, Ts.q_sv_l, Ts.q_own_l, Ts.q_isl_l, Ts.q_vs_v, Ts.q_vs_l, Ts.q_e_v, Ts.q_e_k, Ts.q_e_g, Ts.q_e_bin, Ts.q_e_neg, Ts.q_e_cmp, Ts.q_e_cmp2, Ts.q_e_and, Ts.q_e_or, Ts.q_e_not, Ts.q_e_ite, Ts.q_e_tup, Ts.q_e_lst, Ts.q_e_ix, Ts.q_e_sl, Ts.q_e_call, Ts.q_e_bi, Ts.q_e_mt, Ts.q_e_dic, Ts.q_e_dce, Ts.q_e_lrng, Ts.q_e_ise, Ts.q_es_n, Ts.q_es_c, Ts.q_os_n, Ts.q_os_c, Ts.q_oe_n, Ts.q_oe_s, Ts.q_if_n, Ts.q_if_s, Ts.q_it_of, Ts.q_it_r1, Ts.q_it_r2, Ts.q_it_en, Ts.q_it_z2, Ts.q_it_z3, Ts.q_nt_l, Ts.q_nt_s, Ts.q_im_s, Ts.q_im_l, Ts.q_im_t, Ts.q_s_set, Ts.q_s_new, Ts.q_s_unp, Ts.q_s_app, Ts.q_s_seti, Ts.q_s_ret, Ts.q_s_retn, Ts.q_s_ife, Ts.q_s_ex, Ts.q_s_pas, Ts.q_s_brk, Ts.q_s_cnt, Ts.q_s_rse, Ts.q_s_tri, Ts.q_ss_n, Ts.q_ss_c, Ts.q_tg_x, Ts.q_tg_xs, Ts.q_st_n, Ts.q_st_c, Ts.q_b_add_i, Ts.q_b_add_s, Ts.q_b_add_l, Ts.q_b_add_t, Ts.q_b_sub_i, Ts.q_b_mul_i, Ts.q_b_mul_s, Ts.q_b_fdiv_i, Ts.q_b_mod_i, Ts.q_b_pow_i, Ts.q_c_eq_a, Ts.q_c_ne_a, Ts.q_c_lt_i, Ts.q_c_le_i, Ts.q_c_gt_i, Ts.q_c_ge_i, Ts.q_c_is_b, Ts.q_c_isn_b, Ts.q_c_in__s, Ts.q_c_nin_s, Ts.q_c_in__t_int, Ts.q_c_nin_t_int, Ts.q_c_in__t_str, Ts.q_c_nin_t_str, Ts.q_c_in__t_bl, Ts.q_c_nin_t_bl, Ts.q_c_is_n, Ts.q_c_isn_n, Ts.q_c_in__l, Ts.q_c_nin_l, Ts.q_nn_non, Ts.q_nn_bl, Ts.q_nn_int, Ts.q_nn_str, Ts.q_nn_tup, Ts.q_nn_lst, Ts.q_nn_dct, Ts.q_i_s, Ts.q_i_l, Ts.q_i_t, Ts.q_sl_s, Ts.q_sl_l, Ts.q_sl_t, Ts.q_f_len_s, Ts.q_f_len_l, Ts.q_f_len_t, Ts.q_f_abs, Ts.q_f_int_i, Ts.q_f_int_b, Ts.q_f_str, Ts.q_f_list_l, Ts.q_f_list_t, Ts.q_f_tup_l, Ts.q_f_tup_t, Ts.q_f_sum, Ts.q_f_all, Ts.q_f_any, Ts.q_f_max2, Ts.q_f_min2, Ts.q_f_maxl, Ts.q_f_minl, Ts.q_f_isi, Ts.q_m_join, Ts.q_m_upper, Ts.q_m_lower, Ts.q_m_islower, Ts.q_m_isupper, Ts.q_m_isdigit, Ts.q_m_isalnum, Ts.q_m_split, Ts.q_isstr, Ts.q_ni_non, Ts.q_is_str_non, Ts.q_is_tuple_non, Ts.q_is_int_non, Ts.q_is_bool_non, Ts.q_is_list_non, Ts.q_ni_bl, Ts.q_is_str_bl, Ts.q_is_tuple_bl, Ts.q_is_int_bl, Ts.q_is_bool_bl, Ts.q_is_list_bl, Ts.q_ni_int, Ts.q_is_str_int, Ts.q_is_tuple_int, Ts.q_is_int_int, Ts.q_is_bool_int, Ts.q_is_list_int, Ts.q_ni_str, Ts.q_is_str_str, Ts.q_is_tuple_str, Ts.q_is_int_str, Ts.q_is_bool_str, Ts.q_is_list_str, Ts.q_ni_tup, Ts.q_is_str_tup, Ts.q_is_tuple_tup, Ts.q_is_int_tup, Ts.q_is_bool_tup, Ts.q_is_list_tup, Ts.q_ni_lst, Ts.q_is_str_lst, Ts.q_is_tuple_lst, Ts.q_is_int_lst, Ts.q_is_bool_lst, Ts.q_is_list_lst, Ts.q_ni_dct, Ts.q_is_str_dct, Ts.q_is_tuple_dct, Ts.q_is_int_dct, Ts.q_is_bool_dct, Ts.q_is_list_dct, Ts.q_s_for, Ts.q_s_whl, Ts.q_e_lc, Option.some.injEq, exists_eq_left', exists_eq_left, D.bl.injEq, D.int.injEq, D.str.injEq, D.lst.injEq, D.tup.injEq, Ts.Sl.lst.injEq, List.map_cons, List.map_nil, List.length_cons, List.length_nil, List.getElem?_cons_zero, List.getElem?_cons_succ, List.set_cons_zero, List.set_cons_succ, and_true, true_and, exists_and_left, if_true, if_false, Bool.false_eq_true, reduceIte, reduceCtorEq, Bool.not_true, Bool.not_false]
  refine ⟨by decide, by decide, rfl, rfl, ?_⟩
  split
  · obtain ⟨w, e1, hw⟩ := pickD (xs := WL) D.str (L := WL.map D.str) rfl (c / 3) 12 rfl (by decide)
    obtain ⟨h1, h2, h3⟩ := wl_ok w hw
    refine ⟨⟨by decide, by decide⟩, by decide, .str w, e1, ?_⟩
    simp only [Ts.q_o_v, Ts.q_o_k, Ts.q_o_g, Ts.q_o_bin, Ts.q_o_neg, Ts.q_o_cmp, Ts.q_o_cmp2, Ts.q_o_and, Ts.q_o_or, Ts.q_o_not, Ts.q_o_ite, Ts.q_o_tup, Ts.q_o_lst, Ts.q_o_ix, Ts.q_o_sl, Ts.q_o_call, Ts.q_o_bi, Ts.q_o_mt, Ts.q_o_lc, Ts.q_o_lrng, Ts.q_o_dic, Ts.q_o_dce, Ts.q_o_ise, Ts.q_o_o, Ts.q_od_v, Ts.q_od_o, Ts.q_ods_n, Ts.q_ods_c, Ts.q_sv_v, Ts.q_sv_l, Ts.q_own_l, Ts.q_isl_l, Ts.q_vs_v, Ts.q_vs_l, Ts.q_e_v, Ts.q_e_k, Ts.q_e_g, Ts.q_e_bin, Ts.q_e_neg, Ts.q_e_cmp, Ts.q_e_cmp2, Ts.q_e_and, Ts.q_e_or, Ts.q_e_not, Ts.q_e_ite, Ts.q_e_tup, Ts.q_e_lst, Ts.q_e_ix, Ts.q_e_sl, Ts.q_e_call, Ts.q_e_bi, Ts.q_e_mt, Ts.q_e_dic, Ts.q_e_dce, Ts.q_e_lrng, Ts.q_e_ise, Ts.q_es_n, Ts.q_es_c, Ts.q_os_n, Ts.q_os_c, Ts.q_oe_n, Ts.q_oe_s, Ts.q_if_n, Ts.q_if_s, Ts.q_it_of, Ts.q_it_r1, Ts.q_it_r2, Ts.q_it_en, Ts.q_it_z2, Ts.q_it_z3, Ts.q_nt_l, Ts.q_nt_s, Ts.q_im_s, Ts.q_im_l, Ts.q_im_t, Ts.q_s_set, Ts.q_s_new, Ts.q_s_unp, Ts.q_s_app, Ts.q_s_seti, Ts.q_s_ret, Ts.q_s_retn, Ts.q_s_ife, Ts.q_s_ex, Ts.q_s_pas, Ts.q_s_brk, Ts.q_s_cnt, Ts.q_s_rse, Ts.q_s_tri, Ts.q_ss_n, Ts.q_ss_c, Ts.q_tg_x, Ts.q_tg_xs, Ts.q_st_n, Ts.q_st_c, Ts.q_b_add_i, Ts.q_b_add_s, Ts.q_b_add_l, Ts.q_b_add_t, Ts.q_b_sub_i, Ts.q_b_mul_i, Ts.q_b_mul_s, Ts.q_b_fdiv_i, Ts.q_b_mod_i, Ts.q_b_pow_i, Ts.q_c_eq_a, Ts.q_c_ne_a, Ts.q_c_lt_i, Ts.q_c_le_i, Ts.q_c_gt_i, Ts.q_c_ge_i, Ts.q_c_is_b, Ts.q_c_isn_b, Ts.q_c_in__s, Ts.q_c_nin_s, Ts.q_c_in__t_int, Ts.q_c_nin_t_int, Ts.q_c_in__t_str, Ts.q_c_nin_t_str, Ts.q_c_in__t_bl, Ts.q_c_nin_t_bl, Ts.q_c_is_n, Ts.q_c_isn_n, Ts.q_c_in__l, Ts.q_c_nin_l, Ts.q_nn_non, Ts.q_nn_bl, Ts.q_nn_int, Ts.q_nn_str, Ts.q_nn_tup, Ts.q_nn_lst, Ts.q_nn_dct, Ts.q_i_s, Ts.q_i_l, Ts.q_i_t, Ts.q_sl_s, Ts.q_sl_l, Ts.q_sl_t, Ts.q_f_len_s, Ts.q_f_len_l, Ts.q_f_len_t, Ts.q_f_abs, Ts.q_f_int_i, Ts.q_f_int_b, Ts.q_f_str, Ts.q_f_list_l, Ts.q_f_list_t, Ts.q_f_tup_l, Ts.q_f_tup_t, Ts.q_f_sum, Ts.q_f_all, Ts.q_f_any, Ts.q_f_max2, Ts.q_f_min2, Ts.q_f_maxl, Ts.q_f_minl, Ts.q_f_isi, Ts.q_m_join, Ts.q_m_upper, Ts.q_m_lower, Ts.q_m_islower, Ts.q_m_isupper, Ts.q_m_isdigit, Ts.q_m_isalnum, Ts.q_m_split, Ts.q_isstr, Ts.q_ni_non, Ts.q_is_str_non, Ts.q_is_tuple_non, Ts.q_is_int_non, Ts.q_is_bool_non, Ts.q_is_list_non, Ts.q_ni_bl, Ts.q_is_str_bl, Ts.q_is_tuple_bl, Ts.q_is_int_bl, Ts.q_is_bool_bl, Ts.q_is_list_bl, Ts.q_ni_int, Ts.q_is_str_int, Ts.q_is_tuple_int, Ts.q_is_int_int, Ts.q_is_bool_int, Ts.q_is_list_int, Ts.q_ni_str, Ts.q_is_str_str, Ts.q_is_tuple_str, Ts.q_is_int_str, Ts.q_is_bool_str, Ts.q_is_list_str, Ts.q_ni_tup, Ts.q_is_str_tup, Ts.q_is_tuple_tup, Ts.q_is_int_tup, Ts.q_is_bool_tup, Ts.q_is_list_tup, Ts.q_ni_lst, Ts.q_is_str_lst, Ts.q_is_tuple_lst, Ts.q_is_int_lst, Ts.q_is_bool_lst, Ts.q_is_list_lst, Ts.q_ni_dct, Ts.q_is_str_dct, Ts.q_is_tuple_dct, Ts.q_is_int_dct, Ts.q_is_bool_dct, Ts.q_is_list_dct, Ts.q_s_for, Ts.q_s_whl, Ts.q_e_lc, Option.some.injEq, exists_eq_left', exists_eq_left, D.bl.injEq, D.int.injEq, D.str.injEq, D.lst.injEq, D.tup.injEq, Ts.Sl.lst.injEq, List.map_cons, List.map_nil, List.length_cons, List.length_nil, List.getElem?_cons_zero, List.getElem?_cons_succ, List.set_cons_zero, List.set_cons_succ, and_true, true_and, exists_and_left, if_true, if_false, Bool.false_eq_true, reduceIte, reduceCtorEq, Bool.not_true, Bool.not_false]
    have hc : cut w none (some 8) = w := by
      unfold cut
      rw [show (8 : Int) = ((8 : Nat) : Int) from rfl, HT.sIx_nat, show HT.sIx w.length 0 none = 0 from rfl, List.drop_zero, Nat.sub_zero, Nat.min_eq_right h3, List.take_length]
    rw [hc]
    exact ⟨by show w.length ≤ 16777216; omega, e w _ ⟨h1, h2, h3⟩⟩
  · simp only [b__law_word_2, x_text, r_text, false_implies, implies_true, Ts.q_o_v, Ts.q_o_k, Ts.q_o_g, Ts.q_o_bin, Ts.q_o_neg, Ts.q_o_cmp, Ts.q_o_cmp2, Ts.q_o_and, Ts.q_o_or, Ts.q_o_not, Ts.q_o_ite, Ts.q_o_tup, Ts.q_o_lst, Ts.q_o_ix, Ts.q_o_sl, Ts.q_o_call, Ts.q_o_bi, Ts.q_o_mt, Ts.q_o_lc, Ts.q_o_lrng, Ts.q_o_dic, Ts.q_o_dce, Ts.q_o_ise, Ts.q_o_o, Ts.q_od_v, Ts.q_od_o, Ts.q_ods_n, Ts.q_ods_c, Ts.q_sv_v, Ts.q_sv_l, Ts.q_own_l, Ts.q_isl_l, Ts.q_vs_v, Ts.q_vs_l, Ts.q_e_v, Ts.q_e_k, Ts.q_e_g, Ts.q_e_bin, Ts.q_e_neg, Ts.q_e_cmp, Ts.q_e_cmp2, Ts.q_e_and, Ts.q_e_or, Ts.q_e_not, Ts.q_e_ite, Ts.q_e_tup, Ts.q_e_lst, Ts.q_e_ix, Ts.q_e_sl, Ts.q_e_call, Ts.q_e_bi, Ts.q_e_mt, Ts.q_e_dic, Ts.q_e_dce, Ts.q_e_lrng, Ts.q_e_ise, Ts.q_es_n, Ts.q_es_c, Ts.q_os_n, Ts.q_os_c, Ts.q_oe_n, Ts.q_oe_s, Ts.q_if_n, Ts.q_if_s, Ts.q_it_of, Ts.q_it_r1, Ts.q_it_r2, Ts.q_it_en, Ts.q_it_z2, Ts.q_it_z3, Ts.q_nt_l, Ts.q_nt_s, Ts.q_im_s, Ts.q_im_l, Ts.q_im_t, Ts.q_s_set, Ts.q_s_new, Ts.q_s_unp, Ts.q_s_app, Ts.q_s_seti, Ts.q_s_ret, Ts.q_s_retn, Ts.q_s_ife, Ts.q_s_ex, Ts.q_s_pas, Ts.q_s_brk, Ts.q_s_cnt, Ts.q_s_rse, Ts.q_s_tri, Ts.q_ss_n, Ts.q_ss_c, Ts.q_tg_x, Ts.q_tg_xs, Ts.q_st_n, Ts.q_st_c, Ts.q_b_add_i, Ts.q_b_add_s, Ts.q_b_add_l, Ts.q_b_add_t, Ts.q_b_sub_i, Ts.q_b_mul_i, Ts.q_b_mul_s, Ts.q_b_fdiv_i, Ts.q_b_mod_i, Ts.q_b_pow_i, Ts.q_c_eq_a, Ts.q_c_ne_a, Ts.q_c_lt_i, Ts.q_c_le_i, Ts.q_c_gt_i, Ts.q_c_ge_i, Ts.q_c_is_b, Ts.q_c_isn_b, Ts.q_c_in__s, Ts.q_c_nin_s, Ts.q_c_in__t_int, Ts.q_c_nin_t_int, Ts.q_c_in__t_str, Ts.q_c_nin_t_str, Ts.q_c_in__t_bl, Ts.q_c_nin_t_bl, Ts.q_c_is_n, Ts.q_c_isn_n, Ts.q_c_in__l, Ts.q_c_nin_l, Ts.q_nn_non, Ts.q_nn_bl, Ts.q_nn_int, Ts.q_nn_str, Ts.q_nn_tup, Ts.q_nn_lst, Ts.q_nn_dct, Ts.q_i_s, Ts.q_i_l, Ts.q_i_t, Ts.q_sl_s, Ts.q_sl_l, Ts.q_sl_t, Ts.q_f_len_s, Ts.q_f_len_l, Ts.q_f_len_t, Ts.q_f_abs, Ts.q_f_int_i, Ts.q_f_int_b, Ts.q_f_str, Ts.q_f_list_l, Ts.q_f_list_t, Ts.q_f_tup_l, Ts.q_f_tup_t, Ts.q_f_sum, Ts.q_f_all, Ts.q_f_any, Ts.q_f_max2, Ts.q_f_min2, Ts.q_f_maxl, Ts.q_f_minl, Ts.q_f_isi, Ts.q_m_join, Ts.q_m_upper, Ts.q_m_lower, Ts.q_m_islower, Ts.q_m_isupper, Ts.q_m_isdigit, Ts.q_m_isalnum, Ts.q_m_split, Ts.q_isstr, Ts.q_ni_non, Ts.q_is_str_non, Ts.q_is_tuple_non, Ts.q_is_int_non, Ts.q_is_bool_non, Ts.q_is_list_non, Ts.q_ni_bl, Ts.q_is_str_bl, Ts.q_is_tuple_bl, Ts.q_is_int_bl, Ts.q_is_bool_bl, Ts.q_is_list_bl, Ts.q_ni_int, Ts.q_is_str_int, Ts.q_is_tuple_int, Ts.q_is_int_int, Ts.q_is_bool_int, Ts.q_is_list_int, Ts.q_ni_str, Ts.q_is_str_str, Ts.q_is_tuple_str, Ts.q_is_int_str, Ts.q_is_bool_str, Ts.q_is_list_str, Ts.q_ni_tup, Ts.q_is_str_tup, Ts.q_is_tuple_tup, Ts.q_is_int_tup, Ts.q_is_bool_tup, Ts.q_is_list_tup, Ts.q_ni_lst, Ts.q_is_str_lst, Ts.q_is_tuple_lst, Ts.q_is_int_lst, Ts.q_is_bool_lst, Ts.q_is_list_lst, Ts.q_ni_dct, Ts.q_is_str_dct, Ts.q_is_tuple_dct, Ts.q_is_int_dct, Ts.q_is_bool_dct, Ts.q_is_list_dct, Ts.q_s_for, Ts.q_s_whl, Ts.q_e_lc, Option.some.injEq, exists_eq_left', exists_eq_left, D.bl.injEq, D.int.injEq, D.str.injEq, D.lst.injEq, D.tup.injEq, Ts.Sl.lst.injEq, List.map_cons, List.map_nil, List.length_cons, List.length_nil, List.getElem?_cons_zero, List.getElem?_cons_succ, List.set_cons_zero, List.set_cons_succ, and_true, true_and, exists_and_left, if_true, if_false, Bool.false_eq_true, reduceIte, reduceCtorEq, Bool.not_true, Bool.not_false]
    refine ⟨⟨by decide, by decide⟩, rfl, (c / 3, 8), ⟨rfl, (by decide : (0 : Int) ≤ 8), (by decide : (8 : Int) ≤ 100)⟩, fun s hs hsl => ?_⟩
    have hsl : (s.length : Int) ≤ 8 := hsl
    simp only [b__law_word_3, eq_str, Ts.q_o_v, Ts.q_o_k, Ts.q_o_g, Ts.q_o_bin, Ts.q_o_neg, Ts.q_o_cmp, Ts.q_o_cmp2, Ts.q_o_and, Ts.q_o_or, Ts.q_o_not, Ts.q_o_ite, Ts.q_o_tup, Ts.q_o_lst, Ts.q_o_ix, Ts.q_o_sl, Ts.q_o_call, Ts.q_o_bi, Ts.q_o_mt, Ts.q_o_lc, Ts.q_o_lrng, Ts.q_o_dic, Ts.q_o_dce, Ts.q_o_ise, Ts.q_o_o, Ts.q_od_v, Ts.q_od_o, Ts.q_ods_n, Ts.q_ods_c, Ts.q_sv_v, Ts.q_sv_l, Ts.q_own_l, Ts.q_isl_l, Ts.q_vs_v, Ts.q_vs_l, Ts.q_e_v, Ts.q_e_k, Ts.q_e_g, Ts.q_e_bin, Ts.q_e_neg, Ts.q_e_cmp, Ts.q_e_cmp2, Ts.q_e_and, Ts.q_e_or, Ts.q_e_not, Ts.q_e_ite, Ts.q_e_tup, Ts.q_e_lst, Ts.q_e_ix, Ts.q_e_sl, Ts.q_e_call, Ts.q_e_bi, Ts.q_e_mt, Ts.q_e_dic, Ts.q_e_dce, Ts.q_e_lrng, Ts.q_e_ise, Ts.q_es_n, Ts.q_es_c, Ts.q_os_n, Ts.q_os_c, Ts.q_oe_n, Ts.q_oe_s, Ts.q_if_n, Ts.q_if_s, Ts.q_it_of, Ts.q_it_r1, Ts.q_it_r2, Ts.q_it_en, Ts.q_it_z2, Ts.q_it_z3, Ts.q_nt_l, Ts.q_nt_s, Ts.q_im_s, Ts.q_im_l, Ts.q_im_t, Ts.q_s_set, Ts.q_s_new, Ts.q_s_unp, Ts.q_s_app, Ts.q_s_seti, Ts.q_s_ret, Ts.q_s_retn, Ts.q_s_ife, Ts.q_s_ex, Ts.q_s_pas, Ts.q_s_brk, Ts.q_s_cnt, Ts.q_s_rse, Ts.q_s_tri, Ts.q_ss_n, Ts.q_ss_c, Ts.q_tg_x, Ts.q_tg_xs, Ts.q_st_n, Ts.q_st_c, Ts.q_b_add_i, Ts.q_b_add_s, Ts.q_b_add_l, Ts.q_b_add_t, Ts.q_b_sub_i, Ts.q_b_mul_i, Ts.q_b_mul_s, Ts.q_b_fdiv_i, Ts.q_b_mod_i, Ts.q_b_pow_i, Ts.q_c_eq_a, Ts.q_c_ne_a, Ts.q_c_lt_i, Ts.q_c_le_i, Ts.q_c_gt_i, Ts.q_c_ge_i, Ts.q_c_is_b, Ts.q_c_isn_b, Ts.q_c_in__s, Ts.q_c_nin_s, Ts.q_c_in__t_int, Ts.q_c_nin_t_int, Ts.q_c_in__t_str, Ts.q_c_nin_t_str, Ts.q_c_in__t_bl, Ts.q_c_nin_t_bl, Ts.q_c_is_n, Ts.q_c_isn_n, Ts.q_c_in__l, Ts.q_c_nin_l, Ts.q_nn_non, Ts.q_nn_bl, Ts.q_nn_int, Ts.q_nn_str, Ts.q_nn_tup, Ts.q_nn_lst, Ts.q_nn_dct, Ts.q_i_s, Ts.q_i_l, Ts.q_i_t, Ts.q_sl_s, Ts.q_sl_l, Ts.q_sl_t, Ts.q_f_len_s, Ts.q_f_len_l, Ts.q_f_len_t, Ts.q_f_abs, Ts.q_f_int_i, Ts.q_f_int_b, Ts.q_f_str, Ts.q_f_list_l, Ts.q_f_list_t, Ts.q_f_tup_l, Ts.q_f_tup_t, Ts.q_f_sum, Ts.q_f_all, Ts.q_f_any, Ts.q_f_max2, Ts.q_f_min2, Ts.q_f_maxl, Ts.q_f_minl, Ts.q_f_isi, Ts.q_m_join, Ts.q_m_upper, Ts.q_m_lower, Ts.q_m_islower, Ts.q_m_isupper, Ts.q_m_isdigit, Ts.q_m_isalnum, Ts.q_m_split, Ts.q_isstr, Ts.q_ni_non, Ts.q_is_str_non, Ts.q_is_tuple_non, Ts.q_is_int_non, Ts.q_is_bool_non, Ts.q_is_list_non, Ts.q_ni_bl, Ts.q_is_str_bl, Ts.q_is_tuple_bl, Ts.q_is_int_bl, Ts.q_is_bool_bl, Ts.q_is_list_bl, Ts.q_ni_int, Ts.q_is_str_int, Ts.q_is_tuple_int, Ts.q_is_int_int, Ts.q_is_bool_int, Ts.q_is_list_int, Ts.q_ni_str, Ts.q_is_str_str, Ts.q_is_tuple_str, Ts.q_is_int_str, Ts.q_is_bool_str, Ts.q_is_list_str, Ts.q_ni_tup, Ts.q_is_str_tup, Ts.q_is_tuple_tup, Ts.q_is_int_tup, Ts.q_is_bool_tup, Ts.q_is_list_tup, Ts.q_ni_lst, Ts.q_is_str_lst, Ts.q_is_tuple_lst, Ts.q_is_int_lst, Ts.q_is_bool_lst, Ts.q_is_list_lst, Ts.q_ni_dct, Ts.q_is_str_dct, Ts.q_is_tuple_dct, Ts.q_is_int_dct, Ts.q_is_bool_dct, Ts.q_is_list_dct, Ts.q_s_for, Ts.q_s_whl, Ts.q_e_lc, Option.some.injEq, exists_eq_left', exists_eq_left, D.bl.injEq, D.int.injEq, D.str.injEq, D.lst.injEq, D.tup.injEq, Ts.Sl.lst.injEq, List.map_cons, List.map_nil, List.length_cons, List.length_nil, List.getElem?_cons_zero, List.getElem?_cons_succ, List.set_cons_zero, List.set_cons_succ, and_true, true_and, exists_and_left, if_true, if_false, Bool.false_eq_true, reduceIte, reduceCtorEq, Bool.not_true, Bool.not_false]
    refine ⟨hs.ok, by decide, ?_⟩
    by_cases hs0 : s = []
    · rw [if_pos (by rw [hs0]; rfl)]
      obtain ⟨w, e1, hw⟩ := pickD (xs := WO) D.str (L := WO.map D.str) rfl (c / 75) 5 rfl (by decide)
      exact ⟨by decide, ⟨by decide, by decide⟩, by decide, .str w, e1, e w _ (wo_ok w hw)⟩
    · rw [if_neg (by simp only [beq_iff_eq]; exact hs0)]
      simp only [b__law_word_4, Ts.q_o_v, Ts.q_o_k, Ts.q_o_g, Ts.q_o_bin, Ts.q_o_neg, Ts.q_o_cmp, Ts.q_o_cmp2, Ts.q_o_and, Ts.q_o_or, Ts.q_o_not, Ts.q_o_ite, Ts.q_o_tup, Ts.q_o_lst, Ts.q_o_ix, Ts.q_o_sl, Ts.q_o_call, Ts.q_o_bi, Ts.q_o_mt, Ts.q_o_lc, Ts.q_o_lrng, Ts.q_o_dic, Ts.q_o_dce, Ts.q_o_ise, Ts.q_o_o, Ts.q_od_v, Ts.q_od_o, Ts.q_ods_n, Ts.q_ods_c, Ts.q_sv_v, Ts.q_sv_l, Ts.q_own_l, Ts.q_isl_l, Ts.q_vs_v, Ts.q_vs_l, Ts.q_e_v, Ts.q_e_k, Ts.q_e_g, Ts.q_e_bin, Ts.q_e_neg, Ts.q_e_cmp, Ts.q_e_cmp2, Ts.q_e_and, Ts.q_e_or, Ts.q_e_not, Ts.q_e_ite, Ts.q_e_tup, Ts.q_e_lst, Ts.q_e_ix, Ts.q_e_sl, Ts.q_e_call, Ts.q_e_bi, Ts.q_e_mt, Ts.q_e_dic, Ts.q_e_dce, Ts.q_e_lrng, Ts.q_e_ise, Ts.q_es_n, Ts.q_es_c, Ts.q_os_n, Ts.q_os_c, Ts.q_oe_n, Ts.q_oe_s, Ts.q_if_n, Ts.q_if_s, Ts.q_it_of, Ts.q_it_r1, Ts.q_it_r2, Ts.q_it_en, Ts.q_it_z2, Ts.q_it_z3, Ts.q_nt_l, Ts.q_nt_s, Ts.q_im_s, Ts.q_im_l, Ts.q_im_t, Ts.q_s_set, Ts.q_s_new, Ts.q_s_unp, Ts.q_s_app, Ts.q_s_seti, Ts.q_s_ret, Ts.q_s_retn, Ts.q_s_ife, Ts.q_s_ex, Ts.q_s_pas, Ts.q_s_brk, Ts.q_s_cnt, Ts.q_s_rse, Ts.q_s_tri, Ts.q_ss_n, Ts.q_ss_c, Ts.q_tg_x, Ts.q_tg_xs, Ts.q_st_n, Ts.q_st_c, Ts.q_b_add_i, Ts.q_b_add_s, Ts.q_b_add_l, Ts.q_b_add_t, Ts.q_b_sub_i, Ts.q_b_mul_i, Ts.q_b_mul_s, Ts.q_b_fdiv_i, Ts.q_b_mod_i, Ts.q_b_pow_i, Ts.q_c_eq_a, Ts.q_c_ne_a, Ts.q_c_lt_i, Ts.q_c_le_i, Ts.q_c_gt_i, Ts.q_c_ge_i, Ts.q_c_is_b, Ts.q_c_isn_b, Ts.q_c_in__s, Ts.q_c_nin_s, Ts.q_c_in__t_int, Ts.q_c_nin_t_int, Ts.q_c_in__t_str, Ts.q_c_nin_t_str, Ts.q_c_in__t_bl, Ts.q_c_nin_t_bl, Ts.q_c_is_n, Ts.q_c_isn_n, Ts.q_c_in__l, Ts.q_c_nin_l, Ts.q_nn_non, Ts.q_nn_bl, Ts.q_nn_int, Ts.q_nn_str, Ts.q_nn_tup, Ts.q_nn_lst, Ts.q_nn_dct, Ts.q_i_s, Ts.q_i_l, Ts.q_i_t, Ts.q_sl_s, Ts.q_sl_l, Ts.q_sl_t, Ts.q_f_len_s, Ts.q_f_len_l, Ts.q_f_len_t, Ts.q_f_abs, Ts.q_f_int_i, Ts.q_f_int_b, Ts.q_f_str, Ts.q_f_list_l, Ts.q_f_list_t, Ts.q_f_tup_l, Ts.q_f_tup_t, Ts.q_f_sum, Ts.q_f_all, Ts.q_f_any, Ts.q_f_max2, Ts.q_f_min2, Ts.q_f_maxl, Ts.q_f_minl, Ts.q_f_isi, Ts.q_m_join, Ts.q_m_upper, Ts.q_m_lower, Ts.q_m_islower, Ts.q_m_isupper, Ts.q_m_isdigit, Ts.q_m_isalnum, Ts.q_m_split, Ts.q_isstr, Ts.q_ni_non, Ts.q_is_str_non, Ts.q_is_tuple_non, Ts.q_is_int_non, Ts.q_is_bool_non, Ts.q_is_list_non, Ts.q_ni_bl, Ts.q_is_str_bl, Ts.q_is_tuple_bl, Ts.q_is_int_bl, Ts.q_is_bool_bl, Ts.q_is_list_bl, Ts.q_ni_int, Ts.q_is_str_int, Ts.q_is_tuple_int, Ts.q_is_int_int, Ts.q_is_bool_int, Ts.q_is_list_int, Ts.q_ni_str, Ts.q_is_str_str, Ts.q_is_tuple_str, Ts.q_is_int_str, Ts.q_is_bool_str, Ts.q_is_list_str, Ts.q_ni_tup, Ts.q_is_str_tup, Ts.q_is_tuple_tup, Ts.q_is_int_tup, Ts.q_is_bool_tup, Ts.q_is_list_tup, Ts.q_ni_lst, Ts.q_is_str_lst, Ts.q_is_tuple_lst, Ts.q_is_int_lst, Ts.q_is_bool_lst, Ts.q_is_list_lst, Ts.q_ni_dct, Ts.q_is_str_dct, Ts.q_is_tuple_dct, Ts.q_is_int_dct, Ts.q_is_bool_dct, Ts.q_is_list_dct, Ts.q_s_for, Ts.q_s_whl, Ts.q_e_lc, Option.some.injEq, exists_eq_left', exists_eq_left, D.bl.injEq, D.int.injEq, D.str.injEq, D.lst.injEq, D.tup.injEq, Ts.Sl.lst.injEq, List.map_cons, List.map_nil, List.length_cons, List.length_nil, List.getElem?_cons_zero, List.getElem?_cons_succ, List.set_cons_zero, List.set_cons_succ, and_true, true_and, exists_and_left, if_true, if_false, Bool.false_eq_true, reduceIte, reduceCtorEq, Bool.not_true, Bool.not_false]
      refine e s _ ⟨hs, ?_, by omega⟩
      cases s with
      | nil => exact absurd rfl hs0
      | cons _ _ => simp
def DL : List (List Nat) := [COPY, COPY, RAISE, SINK]
theorem dl_ok : ∀ d ∈ DL, d ∈ DEEDS := by decide +kernel
def sp_piece : PSpec := { ar := 2, G := Int, pre := fun g ds => ds = [.int g, .int 8], ret := fun _ r => ∃ p : Pc, r = dPc p ∧ p.ok }
theorem x_piece {g c} : sp_piece.exc g c = False := rfl
theorem r_piece {g} {Φ : D → Prop} : (∀ d, sp_piece.ret g d → Φ d) = ∀ p : Pc, p.ok → Φ (dPc p) := propext ⟨fun h c h0 => h _ ⟨c, rfl, h0⟩, fun h d ⟨c, e, h0⟩ => by rw [e]; exact h c h0⟩
def m_piece : Sm := { fn := [sp_place, sp_word], cn := [] }
theorem w_piece (c : Int) (ds : List D) (hl : ds.length = 2) (hp : sp_piece.pre c ds) : wpSs m_piece b__law_piece (rho0 3 ds) (pt sp_piece c) := by
  have hp : ds = [.int c, .int 8] := hp
  subst hp
  have e : ∀ (p : Pc) ρ, p.ok → (pt sp_piece c).rt (dPc p) ρ := fun p ρ h => ⟨p, rfl, h⟩
  rw [show rho0 3 [D.int c, D.int 8] = [.val (.int c), .val (.int 8), .no] from rfl]
  generalize pt sp_piece c = P at e ⊢
  simp only [b__law_piece, m_piece, eq_int, Ts.q_o_v, Ts.q_o_k, Ts.q_o_g, Ts.q_o_bin, Ts.q_o_neg, Ts.q_o_cmp, Ts.q_o_cmp2, Ts.q_o_and, Ts.q_o_or, Ts.q_o_not, Ts.q_o_ite, Ts.q_o_tup, Ts.q_o_lst, Ts.q_o_ix, Ts.q_o_sl, Ts.q_o_call, Ts.q_o_bi, Ts.q_o_mt, Ts.q_o_lc, Ts.q_o_lrng, Ts.q_o_dic, Ts.q_o_dce, Ts.q_o_ise, Ts.q_o_o, Ts.q_od_v, Ts.q_od_o, Ts.q_ods_n, Ts.q_ods_c, Ts.q_sv_v, Ts.q_sv_l, Ts.q_own_l, Ts.q_isl_l, Ts.q_vs_v, Ts.q_vs_l, Ts.q_e_v, Ts.q_e_k, Ts.q_e_g, Ts.q_e_bin, Ts.q_e_neg, Ts.q_e_cmp, Ts.q_e_cmp2, Ts.q_e_and, Ts.q_e_or, Ts.q_e_not, Ts.q_e_ite, Ts.q_e_tup, Ts.q_e_lst, Ts.q_e_ix, Ts.q_e_sl, Ts.q_e_call, Ts.q_e_bi, Ts.q_e_mt, Ts.q_e_dic, Ts.q_e_dce, Ts.q_e_lrng, Ts.q_e_ise, Ts.q_es_n, Ts.q_es_c, Ts.q_os_n, Ts.q_os_c, Ts.q_oe_n, Ts.q_oe_s, Ts.q_if_n, Ts.q_if_s, Ts.q_it_of, Ts.q_it_r1, Ts.q_it_r2, Ts.q_it_en, Ts.q_it_z2, Ts.q_it_z3, Ts.q_nt_l, Ts.q_nt_s, Ts.q_im_s, Ts.q_im_l, Ts.q_im_t, Ts.q_s_set, Ts.q_s_new, Ts.q_s_unp, Ts.q_s_app, Ts.q_s_seti, Ts.q_s_ret, Ts.q_s_retn, Ts.q_s_ife, Ts.q_s_ex, Ts.q_s_pas, Ts.q_s_brk, Ts.q_s_cnt, Ts.q_s_rse, Ts.q_s_tri, Ts.q_ss_n, Ts.q_ss_c, Ts.q_tg_x, Ts.q_tg_xs, Ts.q_st_n, Ts.q_st_c, Ts.q_b_add_i, Ts.q_b_add_s, Ts.q_b_add_l, Ts.q_b_add_t, Ts.q_b_sub_i, Ts.q_b_mul_i, Ts.q_b_mul_s, Ts.q_b_fdiv_i, Ts.q_b_mod_i, Ts.q_b_pow_i, Ts.q_c_eq_a, Ts.q_c_ne_a, Ts.q_c_lt_i, Ts.q_c_le_i, Ts.q_c_gt_i, Ts.q_c_ge_i, Ts.q_c_is_b, Ts.q_c_isn_b, Ts.q_c_in__s, Ts.q_c_nin_s, Ts.q_c_in__t_int, Ts.q_c_nin_t_int, Ts.q_c_in__t_str, Ts.q_c_nin_t_str, Ts.q_c_in__t_bl, Ts.q_c_nin_t_bl, Ts.q_c_is_n, Ts.q_c_isn_n, Ts.q_c_in__l, Ts.q_c_nin_l, Ts.q_nn_non, Ts.q_nn_bl, Ts.q_nn_int, Ts.q_nn_str, Ts.q_nn_tup, Ts.q_nn_lst, Ts.q_nn_dct, Ts.q_i_s, Ts.q_i_l, Ts.q_i_t, Ts.q_sl_s, Ts.q_sl_l, Ts.q_sl_t, Ts.q_f_len_s, Ts.q_f_len_l, Ts.q_f_len_t, Ts.q_f_abs, Ts.q_f_int_i, Ts.q_f_int_b, Ts.q_f_str, Ts.q_f_list_l, Ts.q_f_list_t, Ts.q_f_tup_l, Ts.q_f_tup_t, Ts.q_f_sum, Ts.q_f_all, Ts.q_f_any, Ts.q_f_max2, Ts.q_f_min2, Ts.q_f_maxl, Ts.q_f_minl, Ts.q_f_isi, Ts.q_m_join, Ts.q_m_upper, Ts.q_m_lower, Ts.q_m_islower, Ts.q_m_isupper, Ts.q_m_isdigit, Ts.q_m_isalnum, Ts.q_m_split, Ts.q_isstr, Ts.q_ni_non, Ts.q_is_str_non, Ts.q_is_tuple_non, Ts.q_is_int_non, Ts.q_is_bool_non, Ts.q_is_list_non, Ts.q_ni_bl, Ts.q_is_str_bl, Ts.q_is_tuple_bl, Ts.q_is_int_bl, Ts.q_is_bool_bl, Ts.q_is_list_bl, Ts.q_ni_int, Ts.q_is_str_int, Ts.q_is_tuple_int, Ts.q_is_int_int, Ts.q_is_bool_int, Ts.q_is_list_int, Ts.q_ni_str, Ts.q_is_str_str, Ts.q_is_tuple_str, Ts.q_is_int_str, Ts.q_is_bool_str, Ts.q_is_list_str, Ts.q_ni_tup, Ts.q_is_str_tup, Ts.q_is_tuple_tup, Ts.q_is_int_tup, Ts.q_is_bool_tup, Ts.q_is_list_tup, Ts.q_ni_lst, Ts.q_is_str_lst, Ts.q_is_tuple_lst, Ts.q_is_int_lst, Ts.q_is_bool_lst, Ts.q_is_list_lst, Ts.q_ni_dct, Ts.q_is_str_dct, Ts.q_is_tuple_dct, Ts.q_is_int_dct, Ts.q_is_bool_dct, Ts.q_is_list_dct, Ts.q_s_for, Ts.q_s_whl, Ts.q_e_lc, Option.some.injEq, exists_eq_left', exists_eq_left, D.bl.injEq, D.int.injEq, D.str.injEq, D.lst.injEq, D.tup.injEq, Ts.Sl.lst.injEq, List.map_cons, List.map_nil, List.length_cons, List.length_nil, List.getElem?_cons_zero, List.getElem?_cons_succ, List.set_cons_zero, List.set_cons_succ, and_true, true_and, exists_and_left, if_true, if_false, Bool.false_eq_true, reduceIte, reduceCtorEq, Bool.not_true, Bool.not_false]
  refine ⟨by decide, rfl, rfl, ?_⟩
  split
  · simp only [x_word, r_word, false_implies, implies_true, Ts.q_o_v, Ts.q_o_k, Ts.q_o_g, Ts.q_o_bin, Ts.q_o_neg, Ts.q_o_cmp, Ts.q_o_cmp2, Ts.q_o_and, Ts.q_o_or, Ts.q_o_not, Ts.q_o_ite, Ts.q_o_tup, Ts.q_o_lst, Ts.q_o_ix, Ts.q_o_sl, Ts.q_o_call, Ts.q_o_bi, Ts.q_o_mt, Ts.q_o_lc, Ts.q_o_lrng, Ts.q_o_dic, Ts.q_o_dce, Ts.q_o_ise, Ts.q_o_o, Ts.q_od_v, Ts.q_od_o, Ts.q_ods_n, Ts.q_ods_c, Ts.q_sv_v, Ts.q_sv_l, Ts.q_own_l, Ts.q_isl_l, Ts.q_vs_v, Ts.q_vs_l, Ts.q_e_v, Ts.q_e_k, Ts.q_e_g, Ts.q_e_bin, Ts.q_e_neg, Ts.q_e_cmp, Ts.q_e_cmp2, Ts.q_e_and, Ts.q_e_or, Ts.q_e_not, Ts.q_e_ite, Ts.q_e_tup, Ts.q_e_lst, Ts.q_e_ix, Ts.q_e_sl, Ts.q_e_call, Ts.q_e_bi, Ts.q_e_mt, Ts.q_e_dic, Ts.q_e_dce, Ts.q_e_lrng, Ts.q_e_ise, Ts.q_es_n, Ts.q_es_c, Ts.q_os_n, Ts.q_os_c, Ts.q_oe_n, Ts.q_oe_s, Ts.q_if_n, Ts.q_if_s, Ts.q_it_of, Ts.q_it_r1, Ts.q_it_r2, Ts.q_it_en, Ts.q_it_z2, Ts.q_it_z3, Ts.q_nt_l, Ts.q_nt_s, Ts.q_im_s, Ts.q_im_l, Ts.q_im_t, Ts.q_s_set, Ts.q_s_new, Ts.q_s_unp, Ts.q_s_app, Ts.q_s_seti, Ts.q_s_ret, Ts.q_s_retn, Ts.q_s_ife, Ts.q_s_ex, Ts.q_s_pas, Ts.q_s_brk, Ts.q_s_cnt, Ts.q_s_rse, Ts.q_s_tri, Ts.q_ss_n, Ts.q_ss_c, Ts.q_tg_x, Ts.q_tg_xs, Ts.q_st_n, Ts.q_st_c, Ts.q_b_add_i, Ts.q_b_add_s, Ts.q_b_add_l, Ts.q_b_add_t, Ts.q_b_sub_i, Ts.q_b_mul_i, Ts.q_b_mul_s, Ts.q_b_fdiv_i, Ts.q_b_mod_i, Ts.q_b_pow_i, Ts.q_c_eq_a, Ts.q_c_ne_a, Ts.q_c_lt_i, Ts.q_c_le_i, Ts.q_c_gt_i, Ts.q_c_ge_i, Ts.q_c_is_b, Ts.q_c_isn_b, Ts.q_c_in__s, Ts.q_c_nin_s, Ts.q_c_in__t_int, Ts.q_c_nin_t_int, Ts.q_c_in__t_str, Ts.q_c_nin_t_str, Ts.q_c_in__t_bl, Ts.q_c_nin_t_bl, Ts.q_c_is_n, Ts.q_c_isn_n, Ts.q_c_in__l, Ts.q_c_nin_l, Ts.q_nn_non, Ts.q_nn_bl, Ts.q_nn_int, Ts.q_nn_str, Ts.q_nn_tup, Ts.q_nn_lst, Ts.q_nn_dct, Ts.q_i_s, Ts.q_i_l, Ts.q_i_t, Ts.q_sl_s, Ts.q_sl_l, Ts.q_sl_t, Ts.q_f_len_s, Ts.q_f_len_l, Ts.q_f_len_t, Ts.q_f_abs, Ts.q_f_int_i, Ts.q_f_int_b, Ts.q_f_str, Ts.q_f_list_l, Ts.q_f_list_t, Ts.q_f_tup_l, Ts.q_f_tup_t, Ts.q_f_sum, Ts.q_f_all, Ts.q_f_any, Ts.q_f_max2, Ts.q_f_min2, Ts.q_f_maxl, Ts.q_f_minl, Ts.q_f_isi, Ts.q_m_join, Ts.q_m_upper, Ts.q_m_lower, Ts.q_m_islower, Ts.q_m_isupper, Ts.q_m_isdigit, Ts.q_m_isalnum, Ts.q_m_split, Ts.q_isstr, Ts.q_ni_non, Ts.q_is_str_non, Ts.q_is_tuple_non, Ts.q_is_int_non, Ts.q_is_bool_non, Ts.q_is_list_non, Ts.q_ni_bl, Ts.q_is_str_bl, Ts.q_is_tuple_bl, Ts.q_is_int_bl, Ts.q_is_bool_bl, Ts.q_is_list_bl, Ts.q_ni_int, Ts.q_is_str_int, Ts.q_is_tuple_int, Ts.q_is_int_int, Ts.q_is_bool_int, Ts.q_is_list_int, Ts.q_ni_str, Ts.q_is_str_str, Ts.q_is_tuple_str, Ts.q_is_int_str, Ts.q_is_bool_str, Ts.q_is_list_str, Ts.q_ni_tup, Ts.q_is_str_tup, Ts.q_is_tuple_tup, Ts.q_is_int_tup, Ts.q_is_bool_tup, Ts.q_is_list_tup, Ts.q_ni_lst, Ts.q_is_str_lst, Ts.q_is_tuple_lst, Ts.q_is_int_lst, Ts.q_is_bool_lst, Ts.q_is_list_lst, Ts.q_ni_dct, Ts.q_is_str_dct, Ts.q_is_tuple_dct, Ts.q_is_int_dct, Ts.q_is_bool_dct, Ts.q_is_list_dct, Ts.q_s_for, Ts.q_s_whl, Ts.q_e_lc, Option.some.injEq, exists_eq_left', exists_eq_left, D.bl.injEq, D.int.injEq, D.str.injEq, D.lst.injEq, D.tup.injEq, Ts.Sl.lst.injEq, List.map_cons, List.map_nil, List.length_cons, List.length_nil, List.getElem?_cons_zero, List.getElem?_cons_succ, List.set_cons_zero, List.set_cons_succ, and_true, true_and, exists_and_left, if_true, if_false, Bool.false_eq_true, reduceIte, reduceCtorEq, Bool.not_true, Bool.not_false]
    exact ⟨⟨by decide, by decide⟩, rfl, c / 4, rfl, fun w hw => ⟨by decide, e (.word w) _ hw⟩⟩
  · simp only [b__law_piece_1, b__law_piece_2, Ts.q_o_v, Ts.q_o_k, Ts.q_o_g, Ts.q_o_bin, Ts.q_o_neg, Ts.q_o_cmp, Ts.q_o_cmp2, Ts.q_o_and, Ts.q_o_or, Ts.q_o_not, Ts.q_o_ite, Ts.q_o_tup, Ts.q_o_lst, Ts.q_o_ix, Ts.q_o_sl, Ts.q_o_call, Ts.q_o_bi, Ts.q_o_mt, Ts.q_o_lc, Ts.q_o_lrng, Ts.q_o_dic, Ts.q_o_dce, Ts.q_o_ise, Ts.q_o_o, Ts.q_od_v, Ts.q_od_o, Ts.q_ods_n, Ts.q_ods_c, Ts.q_sv_v, Ts.q_sv_l, Ts.q_own_l, Ts.q_isl_l, Ts.q_vs_v, Ts.q_vs_l, Ts.q_e_v, Ts.q_e_k, Ts.q_e_g, Ts.q_e_bin, Ts.q_e_neg, Ts.q_e_cmp, Ts.q_e_cmp2, Ts.q_e_and, Ts.q_e_or, Ts.q_e_not, Ts.q_e_ite, Ts.q_e_tup, Ts.q_e_lst, Ts.q_e_ix, Ts.q_e_sl, Ts.q_e_call, Ts.q_e_bi, Ts.q_e_mt, Ts.q_e_dic, Ts.q_e_dce, Ts.q_e_lrng, Ts.q_e_ise, Ts.q_es_n, Ts.q_es_c, Ts.q_os_n, Ts.q_os_c, Ts.q_oe_n, Ts.q_oe_s, Ts.q_if_n, Ts.q_if_s, Ts.q_it_of, Ts.q_it_r1, Ts.q_it_r2, Ts.q_it_en, Ts.q_it_z2, Ts.q_it_z3, Ts.q_nt_l, Ts.q_nt_s, Ts.q_im_s, Ts.q_im_l, Ts.q_im_t, Ts.q_s_set, Ts.q_s_new, Ts.q_s_unp, Ts.q_s_app, Ts.q_s_seti, Ts.q_s_ret, Ts.q_s_retn, Ts.q_s_ife, Ts.q_s_ex, Ts.q_s_pas, Ts.q_s_brk, Ts.q_s_cnt, Ts.q_s_rse, Ts.q_s_tri, Ts.q_ss_n, Ts.q_ss_c, Ts.q_tg_x, Ts.q_tg_xs, Ts.q_st_n, Ts.q_st_c, Ts.q_b_add_i, Ts.q_b_add_s, Ts.q_b_add_l, Ts.q_b_add_t, Ts.q_b_sub_i, Ts.q_b_mul_i, Ts.q_b_mul_s, Ts.q_b_fdiv_i, Ts.q_b_mod_i, Ts.q_b_pow_i, Ts.q_c_eq_a, Ts.q_c_ne_a, Ts.q_c_lt_i, Ts.q_c_le_i, Ts.q_c_gt_i, Ts.q_c_ge_i, Ts.q_c_is_b, Ts.q_c_isn_b, Ts.q_c_in__s, Ts.q_c_nin_s, Ts.q_c_in__t_int, Ts.q_c_nin_t_int, Ts.q_c_in__t_str, Ts.q_c_nin_t_str, Ts.q_c_in__t_bl, Ts.q_c_nin_t_bl, Ts.q_c_is_n, Ts.q_c_isn_n, Ts.q_c_in__l, Ts.q_c_nin_l, Ts.q_nn_non, Ts.q_nn_bl, Ts.q_nn_int, Ts.q_nn_str, Ts.q_nn_tup, Ts.q_nn_lst, Ts.q_nn_dct, Ts.q_i_s, Ts.q_i_l, Ts.q_i_t, Ts.q_sl_s, Ts.q_sl_l, Ts.q_sl_t, Ts.q_f_len_s, Ts.q_f_len_l, Ts.q_f_len_t, Ts.q_f_abs, Ts.q_f_int_i, Ts.q_f_int_b, Ts.q_f_str, Ts.q_f_list_l, Ts.q_f_list_t, Ts.q_f_tup_l, Ts.q_f_tup_t, Ts.q_f_sum, Ts.q_f_all, Ts.q_f_any, Ts.q_f_max2, Ts.q_f_min2, Ts.q_f_maxl, Ts.q_f_minl, Ts.q_f_isi, Ts.q_m_join, Ts.q_m_upper, Ts.q_m_lower, Ts.q_m_islower, Ts.q_m_isupper, Ts.q_m_isdigit, Ts.q_m_isalnum, Ts.q_m_split, Ts.q_isstr, Ts.q_ni_non, Ts.q_is_str_non, Ts.q_is_tuple_non, Ts.q_is_int_non, Ts.q_is_bool_non, Ts.q_is_list_non, Ts.q_ni_bl, Ts.q_is_str_bl, Ts.q_is_tuple_bl, Ts.q_is_int_bl, Ts.q_is_bool_bl, Ts.q_is_list_bl, Ts.q_ni_int, Ts.q_is_str_int, Ts.q_is_tuple_int, Ts.q_is_int_int, Ts.q_is_bool_int, Ts.q_is_list_int, Ts.q_ni_str, Ts.q_is_str_str, Ts.q_is_tuple_str, Ts.q_is_int_str, Ts.q_is_bool_str, Ts.q_is_list_str, Ts.q_ni_tup, Ts.q_is_str_tup, Ts.q_is_tuple_tup, Ts.q_is_int_tup, Ts.q_is_bool_tup, Ts.q_is_list_tup, Ts.q_ni_lst, Ts.q_is_str_lst, Ts.q_is_tuple_lst, Ts.q_is_int_lst, Ts.q_is_bool_lst, Ts.q_is_list_lst, Ts.q_ni_dct, Ts.q_is_str_dct, Ts.q_is_tuple_dct, Ts.q_is_int_dct, Ts.q_is_bool_dct, Ts.q_is_list_dct, Ts.q_s_for, Ts.q_s_whl, Ts.q_e_lc, Option.some.injEq, exists_eq_left', exists_eq_left, D.bl.injEq, D.int.injEq, D.str.injEq, D.lst.injEq, D.tup.injEq, Ts.Sl.lst.injEq, List.map_cons, List.map_nil, List.length_cons, List.length_nil, List.getElem?_cons_zero, List.getElem?_cons_succ, List.set_cons_zero, List.set_cons_succ, and_true, true_and, exists_and_left, if_true, if_false, Bool.false_eq_true, reduceIte, reduceCtorEq, Bool.not_true, Bool.not_false]
    obtain ⟨d, e1, hd⟩ := pickD (xs := DL) D.str (L := DL.map D.str) rfl (c / 4) 4 rfl (by decide)
    refine ⟨by decide, ⟨by decide, by decide⟩, by decide, .str d, e1, ?_⟩
    simp only [x_place, r_place, false_implies, implies_true, Ts.q_o_v, Ts.q_o_k, Ts.q_o_g, Ts.q_o_bin, Ts.q_o_neg, Ts.q_o_cmp, Ts.q_o_cmp2, Ts.q_o_and, Ts.q_o_or, Ts.q_o_not, Ts.q_o_ite, Ts.q_o_tup, Ts.q_o_lst, Ts.q_o_ix, Ts.q_o_sl, Ts.q_o_call, Ts.q_o_bi, Ts.q_o_mt, Ts.q_o_lc, Ts.q_o_lrng, Ts.q_o_dic, Ts.q_o_dce, Ts.q_o_ise, Ts.q_o_o, Ts.q_od_v, Ts.q_od_o, Ts.q_ods_n, Ts.q_ods_c, Ts.q_sv_v, Ts.q_sv_l, Ts.q_own_l, Ts.q_isl_l, Ts.q_vs_v, Ts.q_vs_l, Ts.q_e_v, Ts.q_e_k, Ts.q_e_g, Ts.q_e_bin, Ts.q_e_neg, Ts.q_e_cmp, Ts.q_e_cmp2, Ts.q_e_and, Ts.q_e_or, Ts.q_e_not, Ts.q_e_ite, Ts.q_e_tup, Ts.q_e_lst, Ts.q_e_ix, Ts.q_e_sl, Ts.q_e_call, Ts.q_e_bi, Ts.q_e_mt, Ts.q_e_dic, Ts.q_e_dce, Ts.q_e_lrng, Ts.q_e_ise, Ts.q_es_n, Ts.q_es_c, Ts.q_os_n, Ts.q_os_c, Ts.q_oe_n, Ts.q_oe_s, Ts.q_if_n, Ts.q_if_s, Ts.q_it_of, Ts.q_it_r1, Ts.q_it_r2, Ts.q_it_en, Ts.q_it_z2, Ts.q_it_z3, Ts.q_nt_l, Ts.q_nt_s, Ts.q_im_s, Ts.q_im_l, Ts.q_im_t, Ts.q_s_set, Ts.q_s_new, Ts.q_s_unp, Ts.q_s_app, Ts.q_s_seti, Ts.q_s_ret, Ts.q_s_retn, Ts.q_s_ife, Ts.q_s_ex, Ts.q_s_pas, Ts.q_s_brk, Ts.q_s_cnt, Ts.q_s_rse, Ts.q_s_tri, Ts.q_ss_n, Ts.q_ss_c, Ts.q_tg_x, Ts.q_tg_xs, Ts.q_st_n, Ts.q_st_c, Ts.q_b_add_i, Ts.q_b_add_s, Ts.q_b_add_l, Ts.q_b_add_t, Ts.q_b_sub_i, Ts.q_b_mul_i, Ts.q_b_mul_s, Ts.q_b_fdiv_i, Ts.q_b_mod_i, Ts.q_b_pow_i, Ts.q_c_eq_a, Ts.q_c_ne_a, Ts.q_c_lt_i, Ts.q_c_le_i, Ts.q_c_gt_i, Ts.q_c_ge_i, Ts.q_c_is_b, Ts.q_c_isn_b, Ts.q_c_in__s, Ts.q_c_nin_s, Ts.q_c_in__t_int, Ts.q_c_nin_t_int, Ts.q_c_in__t_str, Ts.q_c_nin_t_str, Ts.q_c_in__t_bl, Ts.q_c_nin_t_bl, Ts.q_c_is_n, Ts.q_c_isn_n, Ts.q_c_in__l, Ts.q_c_nin_l, Ts.q_nn_non, Ts.q_nn_bl, Ts.q_nn_int, Ts.q_nn_str, Ts.q_nn_tup, Ts.q_nn_lst, Ts.q_nn_dct, Ts.q_i_s, Ts.q_i_l, Ts.q_i_t, Ts.q_sl_s, Ts.q_sl_l, Ts.q_sl_t, Ts.q_f_len_s, Ts.q_f_len_l, Ts.q_f_len_t, Ts.q_f_abs, Ts.q_f_int_i, Ts.q_f_int_b, Ts.q_f_str, Ts.q_f_list_l, Ts.q_f_list_t, Ts.q_f_tup_l, Ts.q_f_tup_t, Ts.q_f_sum, Ts.q_f_all, Ts.q_f_any, Ts.q_f_max2, Ts.q_f_min2, Ts.q_f_maxl, Ts.q_f_minl, Ts.q_f_isi, Ts.q_m_join, Ts.q_m_upper, Ts.q_m_lower, Ts.q_m_islower, Ts.q_m_isupper, Ts.q_m_isdigit, Ts.q_m_isalnum, Ts.q_m_split, Ts.q_isstr, Ts.q_ni_non, Ts.q_is_str_non, Ts.q_is_tuple_non, Ts.q_is_int_non, Ts.q_is_bool_non, Ts.q_is_list_non, Ts.q_ni_bl, Ts.q_is_str_bl, Ts.q_is_tuple_bl, Ts.q_is_int_bl, Ts.q_is_bool_bl, Ts.q_is_list_bl, Ts.q_ni_int, Ts.q_is_str_int, Ts.q_is_tuple_int, Ts.q_is_int_int, Ts.q_is_bool_int, Ts.q_is_list_int, Ts.q_ni_str, Ts.q_is_str_str, Ts.q_is_tuple_str, Ts.q_is_int_str, Ts.q_is_bool_str, Ts.q_is_list_str, Ts.q_ni_tup, Ts.q_is_str_tup, Ts.q_is_tuple_tup, Ts.q_is_int_tup, Ts.q_is_bool_tup, Ts.q_is_list_tup, Ts.q_ni_lst, Ts.q_is_str_lst, Ts.q_is_tuple_lst, Ts.q_is_int_lst, Ts.q_is_bool_lst, Ts.q_is_list_lst, Ts.q_ni_dct, Ts.q_is_str_dct, Ts.q_is_tuple_dct, Ts.q_is_int_dct, Ts.q_is_bool_dct, Ts.q_is_list_dct, Ts.q_s_for, Ts.q_s_whl, Ts.q_e_lc, Option.some.injEq, exists_eq_left', exists_eq_left, D.bl.injEq, D.int.injEq, D.str.injEq, D.lst.injEq, D.tup.injEq, Ts.Sl.lst.injEq, List.map_cons, List.map_nil, List.length_cons, List.length_nil, List.getElem?_cons_zero, List.getElem?_cons_succ, List.set_cons_zero, List.set_cons_succ, and_true, true_and, exists_and_left, if_true, if_false, Bool.false_eq_true, reduceIte, reduceCtorEq, Bool.not_true, Bool.not_false]
    exact ⟨⟨by decide, by decide⟩, rfl, c / 16, rfl, fun p hp => ⟨⟨by decide, by decide⟩, rfl, c / 640, rfl, fun q hq => ⟨by decide, e (.st d p q) _ ⟨dl_ok d hd, hp, hq⟩⟩⟩⟩
/-! ### alike -/
def sp_alikeT : PSpec := { ar := 2, G := Option (List Nat) × Option (List Nat), pre := fun g ds => ds = [dT g.1, dT g.2] ∧ (∀ s, g.1 = some s → Tx s) ∧ ∀ s, g.2 = some s → Tx s, ret := fun g r => r = .bl (decide (g.1 = g.2)) }
theorem r_alikeT {g d} : sp_alikeT.ret g d = (d = .bl (decide (g.1 = g.2))) := rfl
theorem x_alikeT {g c} : sp_alikeT.exc g c = False := rfl
def m_alikeT : Sm := { fn := [], cn := [] }
theorem w_alikeT (g : Option (List Nat) × Option (List Nat)) (ds : List D) (hl : ds.length = 2) (hp : sp_alikeT.pre g ds) : wpSs m_alikeT b__law_alike__2 (rho0 2 ds) (pt sp_alikeT g) := by
  obtain ⟨a, b⟩ := g
  obtain ⟨rfl, ha, hb⟩ := hp
  have ha : ∀ s, a = some s → Tx s := ha
  have hb : ∀ s, b = some s → Tx s := hb
  have e : ∀ d ρ, d = .bl (decide (a = b)) → (pt sp_alikeT (a, b)).rt d ρ := fun d ρ h => h
  rw [show rho0 2 [dT a, dT b] = [.val (dT a), .val (dT b)] from rfl]
  generalize pt sp_alikeT (a, b) = P at e ⊢
  simp only [b__law_alike__2, m_alikeT, Ts.q_o_v, Ts.q_o_k, Ts.q_o_g, Ts.q_o_bin, Ts.q_o_neg, Ts.q_o_cmp, Ts.q_o_cmp2, Ts.q_o_and, Ts.q_o_or, Ts.q_o_not, Ts.q_o_ite, Ts.q_o_tup, Ts.q_o_lst, Ts.q_o_ix, Ts.q_o_sl, Ts.q_o_call, Ts.q_o_bi, Ts.q_o_mt, Ts.q_o_lc, Ts.q_o_lrng, Ts.q_o_dic, Ts.q_o_dce, Ts.q_o_ise, Ts.q_o_o, Ts.q_od_v, Ts.q_od_o, Ts.q_ods_n, Ts.q_ods_c, Ts.q_sv_v, Ts.q_sv_l, Ts.q_own_l, Ts.q_isl_l, Ts.q_vs_v, Ts.q_vs_l, Ts.q_e_v, Ts.q_e_k, Ts.q_e_g, Ts.q_e_bin, Ts.q_e_neg, Ts.q_e_cmp, Ts.q_e_cmp2, Ts.q_e_and, Ts.q_e_or, Ts.q_e_not, Ts.q_e_ite, Ts.q_e_tup, Ts.q_e_lst, Ts.q_e_ix, Ts.q_e_sl, Ts.q_e_call, Ts.q_e_bi, Ts.q_e_mt, Ts.q_e_dic, Ts.q_e_dce, Ts.q_e_lrng, Ts.q_e_ise, Ts.q_es_n, Ts.q_es_c, Ts.q_os_n, Ts.q_os_c, Ts.q_oe_n, Ts.q_oe_s, Ts.q_if_n, Ts.q_if_s, Ts.q_it_of, Ts.q_it_r1, Ts.q_it_r2, Ts.q_it_en, Ts.q_it_z2, Ts.q_it_z3, Ts.q_nt_l, Ts.q_nt_s, Ts.q_im_s, Ts.q_im_l, Ts.q_im_t, Ts.q_s_set, Ts.q_s_new, Ts.q_s_unp, Ts.q_s_app, Ts.q_s_seti, Ts.q_s_ret, Ts.q_s_retn, Ts.q_s_ife, Ts.q_s_ex, Ts.q_s_pas, Ts.q_s_brk, Ts.q_s_cnt, Ts.q_s_rse, Ts.q_s_tri, Ts.q_ss_n, Ts.q_ss_c, Ts.q_tg_x, Ts.q_tg_xs, Ts.q_st_n, Ts.q_st_c, Ts.q_b_add_i, Ts.q_b_add_s, Ts.q_b_add_l, Ts.q_b_add_t, Ts.q_b_sub_i, Ts.q_b_mul_i, Ts.q_b_mul_s, Ts.q_b_fdiv_i, Ts.q_b_mod_i, Ts.q_b_pow_i, Ts.q_c_eq_a, Ts.q_c_ne_a, Ts.q_c_lt_i, Ts.q_c_le_i, Ts.q_c_gt_i, Ts.q_c_ge_i, Ts.q_c_is_b, Ts.q_c_isn_b, Ts.q_c_in__s, Ts.q_c_nin_s, Ts.q_c_in__t_int, Ts.q_c_nin_t_int, Ts.q_c_in__t_str, Ts.q_c_nin_t_str, Ts.q_c_in__t_bl, Ts.q_c_nin_t_bl, Ts.q_c_is_n, Ts.q_c_isn_n, Ts.q_c_in__l, Ts.q_c_nin_l, Ts.q_nn_non, Ts.q_nn_bl, Ts.q_nn_int, Ts.q_nn_str, Ts.q_nn_tup, Ts.q_nn_lst, Ts.q_nn_dct, Ts.q_i_s, Ts.q_i_l, Ts.q_i_t, Ts.q_sl_s, Ts.q_sl_l, Ts.q_sl_t, Ts.q_f_len_s, Ts.q_f_len_l, Ts.q_f_len_t, Ts.q_f_abs, Ts.q_f_int_i, Ts.q_f_int_b, Ts.q_f_str, Ts.q_f_list_l, Ts.q_f_list_t, Ts.q_f_tup_l, Ts.q_f_tup_t, Ts.q_f_sum, Ts.q_f_all, Ts.q_f_any, Ts.q_f_max2, Ts.q_f_min2, Ts.q_f_maxl, Ts.q_f_minl, Ts.q_f_isi, Ts.q_m_join, Ts.q_m_upper, Ts.q_m_lower, Ts.q_m_islower, Ts.q_m_isupper, Ts.q_m_isdigit, Ts.q_m_isalnum, Ts.q_m_split, Ts.q_isstr, Ts.q_ni_non, Ts.q_is_str_non, Ts.q_is_tuple_non, Ts.q_is_int_non, Ts.q_is_bool_non, Ts.q_is_list_non, Ts.q_ni_bl, Ts.q_is_str_bl, Ts.q_is_tuple_bl, Ts.q_is_int_bl, Ts.q_is_bool_bl, Ts.q_is_list_bl, Ts.q_ni_int, Ts.q_is_str_int, Ts.q_is_tuple_int, Ts.q_is_int_int, Ts.q_is_bool_int, Ts.q_is_list_int, Ts.q_ni_str, Ts.q_is_str_str, Ts.q_is_tuple_str, Ts.q_is_int_str, Ts.q_is_bool_str, Ts.q_is_list_str, Ts.q_ni_tup, Ts.q_is_str_tup, Ts.q_is_tuple_tup, Ts.q_is_int_tup, Ts.q_is_bool_tup, Ts.q_is_list_tup, Ts.q_ni_lst, Ts.q_is_str_lst, Ts.q_is_tuple_lst, Ts.q_is_int_lst, Ts.q_is_bool_lst, Ts.q_is_list_lst, Ts.q_ni_dct, Ts.q_is_str_dct, Ts.q_is_tuple_dct, Ts.q_is_int_dct, Ts.q_is_bool_dct, Ts.q_is_list_dct, Ts.q_s_for, Ts.q_s_whl, Ts.q_e_lc, Option.some.injEq, exists_eq_left', exists_eq_left, D.bl.injEq, D.int.injEq, D.str.injEq, D.lst.injEq, D.tup.injEq, Ts.Sl.lst.injEq, List.map_cons, List.map_nil, List.length_cons, List.length_nil, List.getElem?_cons_zero, List.getElem?_cons_succ, List.set_cons_zero, List.set_cons_succ, and_true, true_and, exists_and_left, if_true, if_false, Bool.false_eq_true, reduceIte, reduceCtorEq, Bool.not_true, Bool.not_false]
  cases b with
  | none =>
    simp only [dT, Ts.q_o_v, Ts.q_o_k, Ts.q_o_g, Ts.q_o_bin, Ts.q_o_neg, Ts.q_o_cmp, Ts.q_o_cmp2, Ts.q_o_and, Ts.q_o_or, Ts.q_o_not, Ts.q_o_ite, Ts.q_o_tup, Ts.q_o_lst, Ts.q_o_ix, Ts.q_o_sl, Ts.q_o_call, Ts.q_o_bi, Ts.q_o_mt, Ts.q_o_lc, Ts.q_o_lrng, Ts.q_o_dic, Ts.q_o_dce, Ts.q_o_ise, Ts.q_o_o, Ts.q_od_v, Ts.q_od_o, Ts.q_ods_n, Ts.q_ods_c, Ts.q_sv_v, Ts.q_sv_l, Ts.q_own_l, Ts.q_isl_l, Ts.q_vs_v, Ts.q_vs_l, Ts.q_e_v, Ts.q_e_k, Ts.q_e_g, Ts.q_e_bin, Ts.q_e_neg, Ts.q_e_cmp, Ts.q_e_cmp2, Ts.q_e_and, Ts.q_e_or, Ts.q_e_not, Ts.q_e_ite, Ts.q_e_tup, Ts.q_e_lst, Ts.q_e_ix, Ts.q_e_sl, Ts.q_e_call, Ts.q_e_bi, Ts.q_e_mt, Ts.q_e_dic, Ts.q_e_dce, Ts.q_e_lrng, Ts.q_e_ise, Ts.q_es_n, Ts.q_es_c, Ts.q_os_n, Ts.q_os_c, Ts.q_oe_n, Ts.q_oe_s, Ts.q_if_n, Ts.q_if_s, Ts.q_it_of, Ts.q_it_r1, Ts.q_it_r2, Ts.q_it_en, Ts.q_it_z2, Ts.q_it_z3, Ts.q_nt_l, Ts.q_nt_s, Ts.q_im_s, Ts.q_im_l, Ts.q_im_t, Ts.q_s_set, Ts.q_s_new, Ts.q_s_unp, Ts.q_s_app, Ts.q_s_seti, Ts.q_s_ret, Ts.q_s_retn, Ts.q_s_ife, Ts.q_s_ex, Ts.q_s_pas, Ts.q_s_brk, Ts.q_s_cnt, Ts.q_s_rse, Ts.q_s_tri, Ts.q_ss_n, Ts.q_ss_c, Ts.q_tg_x, Ts.q_tg_xs, Ts.q_st_n, Ts.q_st_c, Ts.q_b_add_i, Ts.q_b_add_s, Ts.q_b_add_l, Ts.q_b_add_t, Ts.q_b_sub_i, Ts.q_b_mul_i, Ts.q_b_mul_s, Ts.q_b_fdiv_i, Ts.q_b_mod_i, Ts.q_b_pow_i, Ts.q_c_eq_a, Ts.q_c_ne_a, Ts.q_c_lt_i, Ts.q_c_le_i, Ts.q_c_gt_i, Ts.q_c_ge_i, Ts.q_c_is_b, Ts.q_c_isn_b, Ts.q_c_in__s, Ts.q_c_nin_s, Ts.q_c_in__t_int, Ts.q_c_nin_t_int, Ts.q_c_in__t_str, Ts.q_c_nin_t_str, Ts.q_c_in__t_bl, Ts.q_c_nin_t_bl, Ts.q_c_is_n, Ts.q_c_isn_n, Ts.q_c_in__l, Ts.q_c_nin_l, Ts.q_nn_non, Ts.q_nn_bl, Ts.q_nn_int, Ts.q_nn_str, Ts.q_nn_tup, Ts.q_nn_lst, Ts.q_nn_dct, Ts.q_i_s, Ts.q_i_l, Ts.q_i_t, Ts.q_sl_s, Ts.q_sl_l, Ts.q_sl_t, Ts.q_f_len_s, Ts.q_f_len_l, Ts.q_f_len_t, Ts.q_f_abs, Ts.q_f_int_i, Ts.q_f_int_b, Ts.q_f_str, Ts.q_f_list_l, Ts.q_f_list_t, Ts.q_f_tup_l, Ts.q_f_tup_t, Ts.q_f_sum, Ts.q_f_all, Ts.q_f_any, Ts.q_f_max2, Ts.q_f_min2, Ts.q_f_maxl, Ts.q_f_minl, Ts.q_f_isi, Ts.q_m_join, Ts.q_m_upper, Ts.q_m_lower, Ts.q_m_islower, Ts.q_m_isupper, Ts.q_m_isdigit, Ts.q_m_isalnum, Ts.q_m_split, Ts.q_isstr, Ts.q_ni_non, Ts.q_is_str_non, Ts.q_is_tuple_non, Ts.q_is_int_non, Ts.q_is_bool_non, Ts.q_is_list_non, Ts.q_ni_bl, Ts.q_is_str_bl, Ts.q_is_tuple_bl, Ts.q_is_int_bl, Ts.q_is_bool_bl, Ts.q_is_list_bl, Ts.q_ni_int, Ts.q_is_str_int, Ts.q_is_tuple_int, Ts.q_is_int_int, Ts.q_is_bool_int, Ts.q_is_list_int, Ts.q_ni_str, Ts.q_is_str_str, Ts.q_is_tuple_str, Ts.q_is_int_str, Ts.q_is_bool_str, Ts.q_is_list_str, Ts.q_ni_tup, Ts.q_is_str_tup, Ts.q_is_tuple_tup, Ts.q_is_int_tup, Ts.q_is_bool_tup, Ts.q_is_list_tup, Ts.q_ni_lst, Ts.q_is_str_lst, Ts.q_is_tuple_lst, Ts.q_is_int_lst, Ts.q_is_bool_lst, Ts.q_is_list_lst, Ts.q_ni_dct, Ts.q_is_str_dct, Ts.q_is_tuple_dct, Ts.q_is_int_dct, Ts.q_is_bool_dct, Ts.q_is_list_dct, Ts.q_s_for, Ts.q_s_whl, Ts.q_e_lc, Option.some.injEq, exists_eq_left', exists_eq_left, D.bl.injEq, D.int.injEq, D.str.injEq, D.lst.injEq, D.tup.injEq, Ts.Sl.lst.injEq, List.map_cons, List.map_nil, List.length_cons, List.length_nil, List.getElem?_cons_zero, List.getElem?_cons_succ, List.set_cons_zero, List.set_cons_succ, and_true, true_and, exists_and_left, if_true, if_false, Bool.false_eq_true, reduceIte, reduceCtorEq, Bool.not_true, Bool.not_false]
    refine e _ _ ?_
    cases a <;> rfl
  | some b =>
    simp only [dT, b__law_alike__2_1, Ts.q_o_v, Ts.q_o_k, Ts.q_o_g, Ts.q_o_bin, Ts.q_o_neg, Ts.q_o_cmp, Ts.q_o_cmp2, Ts.q_o_and, Ts.q_o_or, Ts.q_o_not, Ts.q_o_ite, Ts.q_o_tup, Ts.q_o_lst, Ts.q_o_ix, Ts.q_o_sl, Ts.q_o_call, Ts.q_o_bi, Ts.q_o_mt, Ts.q_o_lc, Ts.q_o_lrng, Ts.q_o_dic, Ts.q_o_dce, Ts.q_o_ise, Ts.q_o_o, Ts.q_od_v, Ts.q_od_o, Ts.q_ods_n, Ts.q_ods_c, Ts.q_sv_v, Ts.q_sv_l, Ts.q_own_l, Ts.q_isl_l, Ts.q_vs_v, Ts.q_vs_l, Ts.q_e_v, Ts.q_e_k, Ts.q_e_g, Ts.q_e_bin, Ts.q_e_neg, Ts.q_e_cmp, Ts.q_e_cmp2, Ts.q_e_and, Ts.q_e_or, Ts.q_e_not, Ts.q_e_ite, Ts.q_e_tup, Ts.q_e_lst, Ts.q_e_ix, Ts.q_e_sl, Ts.q_e_call, Ts.q_e_bi, Ts.q_e_mt, Ts.q_e_dic, Ts.q_e_dce, Ts.q_e_lrng, Ts.q_e_ise, Ts.q_es_n, Ts.q_es_c, Ts.q_os_n, Ts.q_os_c, Ts.q_oe_n, Ts.q_oe_s, Ts.q_if_n, Ts.q_if_s, Ts.q_it_of, Ts.q_it_r1, Ts.q_it_r2, Ts.q_it_en, Ts.q_it_z2, Ts.q_it_z3, Ts.q_nt_l, Ts.q_nt_s, Ts.q_im_s, Ts.q_im_l, Ts.q_im_t, Ts.q_s_set, Ts.q_s_new, Ts.q_s_unp, Ts.q_s_app, Ts.q_s_seti, Ts.q_s_ret, Ts.q_s_retn, Ts.q_s_ife, Ts.q_s_ex, Ts.q_s_pas, Ts.q_s_brk, Ts.q_s_cnt, Ts.q_s_rse, Ts.q_s_tri, Ts.q_ss_n, Ts.q_ss_c, Ts.q_tg_x, Ts.q_tg_xs, Ts.q_st_n, Ts.q_st_c, Ts.q_b_add_i, Ts.q_b_add_s, Ts.q_b_add_l, Ts.q_b_add_t, Ts.q_b_sub_i, Ts.q_b_mul_i, Ts.q_b_mul_s, Ts.q_b_fdiv_i, Ts.q_b_mod_i, Ts.q_b_pow_i, Ts.q_c_eq_a, Ts.q_c_ne_a, Ts.q_c_lt_i, Ts.q_c_le_i, Ts.q_c_gt_i, Ts.q_c_ge_i, Ts.q_c_is_b, Ts.q_c_isn_b, Ts.q_c_in__s, Ts.q_c_nin_s, Ts.q_c_in__t_int, Ts.q_c_nin_t_int, Ts.q_c_in__t_str, Ts.q_c_nin_t_str, Ts.q_c_in__t_bl, Ts.q_c_nin_t_bl, Ts.q_c_is_n, Ts.q_c_isn_n, Ts.q_c_in__l, Ts.q_c_nin_l, Ts.q_nn_non, Ts.q_nn_bl, Ts.q_nn_int, Ts.q_nn_str, Ts.q_nn_tup, Ts.q_nn_lst, Ts.q_nn_dct, Ts.q_i_s, Ts.q_i_l, Ts.q_i_t, Ts.q_sl_s, Ts.q_sl_l, Ts.q_sl_t, Ts.q_f_len_s, Ts.q_f_len_l, Ts.q_f_len_t, Ts.q_f_abs, Ts.q_f_int_i, Ts.q_f_int_b, Ts.q_f_str, Ts.q_f_list_l, Ts.q_f_list_t, Ts.q_f_tup_l, Ts.q_f_tup_t, Ts.q_f_sum, Ts.q_f_all, Ts.q_f_any, Ts.q_f_max2, Ts.q_f_min2, Ts.q_f_maxl, Ts.q_f_minl, Ts.q_f_isi, Ts.q_m_join, Ts.q_m_upper, Ts.q_m_lower, Ts.q_m_islower, Ts.q_m_isupper, Ts.q_m_isdigit, Ts.q_m_isalnum, Ts.q_m_split, Ts.q_isstr, Ts.q_ni_non, Ts.q_is_str_non, Ts.q_is_tuple_non, Ts.q_is_int_non, Ts.q_is_bool_non, Ts.q_is_list_non, Ts.q_ni_bl, Ts.q_is_str_bl, Ts.q_is_tuple_bl, Ts.q_is_int_bl, Ts.q_is_bool_bl, Ts.q_is_list_bl, Ts.q_ni_int, Ts.q_is_str_int, Ts.q_is_tuple_int, Ts.q_is_int_int, Ts.q_is_bool_int, Ts.q_is_list_int, Ts.q_ni_str, Ts.q_is_str_str, Ts.q_is_tuple_str, Ts.q_is_int_str, Ts.q_is_bool_str, Ts.q_is_list_str, Ts.q_ni_tup, Ts.q_is_str_tup, Ts.q_is_tuple_tup, Ts.q_is_int_tup, Ts.q_is_bool_tup, Ts.q_is_list_tup, Ts.q_ni_lst, Ts.q_is_str_lst, Ts.q_is_tuple_lst, Ts.q_is_int_lst, Ts.q_is_bool_lst, Ts.q_is_list_lst, Ts.q_ni_dct, Ts.q_is_str_dct, Ts.q_is_tuple_dct, Ts.q_is_int_dct, Ts.q_is_bool_dct, Ts.q_is_list_dct, Ts.q_s_for, Ts.q_s_whl, Ts.q_e_lc, Option.some.injEq, exists_eq_left', exists_eq_left, D.bl.injEq, D.int.injEq, D.str.injEq, D.lst.injEq, D.tup.injEq, Ts.Sl.lst.injEq, List.map_cons, List.map_nil, List.length_cons, List.length_nil, List.getElem?_cons_zero, List.getElem?_cons_succ, List.set_cons_zero, List.set_cons_succ, and_true, true_and, exists_and_left, if_true, if_false, Bool.false_eq_true, reduceIte, reduceCtorEq, Bool.not_true, Bool.not_false]
    cases a with
    | none =>
      simp only [Ts.q_o_v, Ts.q_o_k, Ts.q_o_g, Ts.q_o_bin, Ts.q_o_neg, Ts.q_o_cmp, Ts.q_o_cmp2, Ts.q_o_and, Ts.q_o_or, Ts.q_o_not, Ts.q_o_ite, Ts.q_o_tup, Ts.q_o_lst, Ts.q_o_ix, Ts.q_o_sl, Ts.q_o_call, Ts.q_o_bi, Ts.q_o_mt, Ts.q_o_lc, Ts.q_o_lrng, Ts.q_o_dic, Ts.q_o_dce, Ts.q_o_ise, Ts.q_o_o, Ts.q_od_v, Ts.q_od_o, Ts.q_ods_n, Ts.q_ods_c, Ts.q_sv_v, Ts.q_sv_l, Ts.q_own_l, Ts.q_isl_l, Ts.q_vs_v, Ts.q_vs_l, Ts.q_e_v, Ts.q_e_k, Ts.q_e_g, Ts.q_e_bin, Ts.q_e_neg, Ts.q_e_cmp, Ts.q_e_cmp2, Ts.q_e_and, Ts.q_e_or, Ts.q_e_not, Ts.q_e_ite, Ts.q_e_tup, Ts.q_e_lst, Ts.q_e_ix, Ts.q_e_sl, Ts.q_e_call, Ts.q_e_bi, Ts.q_e_mt, Ts.q_e_dic, Ts.q_e_dce, Ts.q_e_lrng, Ts.q_e_ise, Ts.q_es_n, Ts.q_es_c, Ts.q_os_n, Ts.q_os_c, Ts.q_oe_n, Ts.q_oe_s, Ts.q_if_n, Ts.q_if_s, Ts.q_it_of, Ts.q_it_r1, Ts.q_it_r2, Ts.q_it_en, Ts.q_it_z2, Ts.q_it_z3, Ts.q_nt_l, Ts.q_nt_s, Ts.q_im_s, Ts.q_im_l, Ts.q_im_t, Ts.q_s_set, Ts.q_s_new, Ts.q_s_unp, Ts.q_s_app, Ts.q_s_seti, Ts.q_s_ret, Ts.q_s_retn, Ts.q_s_ife, Ts.q_s_ex, Ts.q_s_pas, Ts.q_s_brk, Ts.q_s_cnt, Ts.q_s_rse, Ts.q_s_tri, Ts.q_ss_n, Ts.q_ss_c, Ts.q_tg_x, Ts.q_tg_xs, Ts.q_st_n, Ts.q_st_c, Ts.q_b_add_i, Ts.q_b_add_s, Ts.q_b_add_l, Ts.q_b_add_t, Ts.q_b_sub_i, Ts.q_b_mul_i, Ts.q_b_mul_s, Ts.q_b_fdiv_i, Ts.q_b_mod_i, Ts.q_b_pow_i, Ts.q_c_eq_a, Ts.q_c_ne_a, Ts.q_c_lt_i, Ts.q_c_le_i, Ts.q_c_gt_i, Ts.q_c_ge_i, Ts.q_c_is_b, Ts.q_c_isn_b, Ts.q_c_in__s, Ts.q_c_nin_s, Ts.q_c_in__t_int, Ts.q_c_nin_t_int, Ts.q_c_in__t_str, Ts.q_c_nin_t_str, Ts.q_c_in__t_bl, Ts.q_c_nin_t_bl, Ts.q_c_is_n, Ts.q_c_isn_n, Ts.q_c_in__l, Ts.q_c_nin_l, Ts.q_nn_non, Ts.q_nn_bl, Ts.q_nn_int, Ts.q_nn_str, Ts.q_nn_tup, Ts.q_nn_lst, Ts.q_nn_dct, Ts.q_i_s, Ts.q_i_l, Ts.q_i_t, Ts.q_sl_s, Ts.q_sl_l, Ts.q_sl_t, Ts.q_f_len_s, Ts.q_f_len_l, Ts.q_f_len_t, Ts.q_f_abs, Ts.q_f_int_i, Ts.q_f_int_b, Ts.q_f_str, Ts.q_f_list_l, Ts.q_f_list_t, Ts.q_f_tup_l, Ts.q_f_tup_t, Ts.q_f_sum, Ts.q_f_all, Ts.q_f_any, Ts.q_f_max2, Ts.q_f_min2, Ts.q_f_maxl, Ts.q_f_minl, Ts.q_f_isi, Ts.q_m_join, Ts.q_m_upper, Ts.q_m_lower, Ts.q_m_islower, Ts.q_m_isupper, Ts.q_m_isdigit, Ts.q_m_isalnum, Ts.q_m_split, Ts.q_isstr, Ts.q_ni_non, Ts.q_is_str_non, Ts.q_is_tuple_non, Ts.q_is_int_non, Ts.q_is_bool_non, Ts.q_is_list_non, Ts.q_ni_bl, Ts.q_is_str_bl, Ts.q_is_tuple_bl, Ts.q_is_int_bl, Ts.q_is_bool_bl, Ts.q_is_list_bl, Ts.q_ni_int, Ts.q_is_str_int, Ts.q_is_tuple_int, Ts.q_is_int_int, Ts.q_is_bool_int, Ts.q_is_list_int, Ts.q_ni_str, Ts.q_is_str_str, Ts.q_is_tuple_str, Ts.q_is_int_str, Ts.q_is_bool_str, Ts.q_is_list_str, Ts.q_ni_tup, Ts.q_is_str_tup, Ts.q_is_tuple_tup, Ts.q_is_int_tup, Ts.q_is_bool_tup, Ts.q_is_list_tup, Ts.q_ni_lst, Ts.q_is_str_lst, Ts.q_is_tuple_lst, Ts.q_is_int_lst, Ts.q_is_bool_lst, Ts.q_is_list_lst, Ts.q_ni_dct, Ts.q_is_str_dct, Ts.q_is_tuple_dct, Ts.q_is_int_dct, Ts.q_is_bool_dct, Ts.q_is_list_dct, Ts.q_s_for, Ts.q_s_whl, Ts.q_e_lc, Option.some.injEq, exists_eq_left', exists_eq_left, D.bl.injEq, D.int.injEq, D.str.injEq, D.lst.injEq, D.tup.injEq, Ts.Sl.lst.injEq, List.map_cons, List.map_nil, List.length_cons, List.length_nil, List.getElem?_cons_zero, List.getElem?_cons_succ, List.set_cons_zero, List.set_cons_succ, and_true, true_and, exists_and_left, if_true, if_false, Bool.false_eq_true, reduceIte, reduceCtorEq, Bool.not_true, Bool.not_false]
      exact e _ _ rfl
    | some a =>
      simp only [eq_str, Ts.q_o_v, Ts.q_o_k, Ts.q_o_g, Ts.q_o_bin, Ts.q_o_neg, Ts.q_o_cmp, Ts.q_o_cmp2, Ts.q_o_and, Ts.q_o_or, Ts.q_o_not, Ts.q_o_ite, Ts.q_o_tup, Ts.q_o_lst, Ts.q_o_ix, Ts.q_o_sl, Ts.q_o_call, Ts.q_o_bi, Ts.q_o_mt, Ts.q_o_lc, Ts.q_o_lrng, Ts.q_o_dic, Ts.q_o_dce, Ts.q_o_ise, Ts.q_o_o, Ts.q_od_v, Ts.q_od_o, Ts.q_ods_n, Ts.q_ods_c, Ts.q_sv_v, Ts.q_sv_l, Ts.q_own_l, Ts.q_isl_l, Ts.q_vs_v, Ts.q_vs_l, Ts.q_e_v, Ts.q_e_k, Ts.q_e_g, Ts.q_e_bin, Ts.q_e_neg, Ts.q_e_cmp, Ts.q_e_cmp2, Ts.q_e_and, Ts.q_e_or, Ts.q_e_not, Ts.q_e_ite, Ts.q_e_tup, Ts.q_e_lst, Ts.q_e_ix, Ts.q_e_sl, Ts.q_e_call, Ts.q_e_bi, Ts.q_e_mt, Ts.q_e_dic, Ts.q_e_dce, Ts.q_e_lrng, Ts.q_e_ise, Ts.q_es_n, Ts.q_es_c, Ts.q_os_n, Ts.q_os_c, Ts.q_oe_n, Ts.q_oe_s, Ts.q_if_n, Ts.q_if_s, Ts.q_it_of, Ts.q_it_r1, Ts.q_it_r2, Ts.q_it_en, Ts.q_it_z2, Ts.q_it_z3, Ts.q_nt_l, Ts.q_nt_s, Ts.q_im_s, Ts.q_im_l, Ts.q_im_t, Ts.q_s_set, Ts.q_s_new, Ts.q_s_unp, Ts.q_s_app, Ts.q_s_seti, Ts.q_s_ret, Ts.q_s_retn, Ts.q_s_ife, Ts.q_s_ex, Ts.q_s_pas, Ts.q_s_brk, Ts.q_s_cnt, Ts.q_s_rse, Ts.q_s_tri, Ts.q_ss_n, Ts.q_ss_c, Ts.q_tg_x, Ts.q_tg_xs, Ts.q_st_n, Ts.q_st_c, Ts.q_b_add_i, Ts.q_b_add_s, Ts.q_b_add_l, Ts.q_b_add_t, Ts.q_b_sub_i, Ts.q_b_mul_i, Ts.q_b_mul_s, Ts.q_b_fdiv_i, Ts.q_b_mod_i, Ts.q_b_pow_i, Ts.q_c_eq_a, Ts.q_c_ne_a, Ts.q_c_lt_i, Ts.q_c_le_i, Ts.q_c_gt_i, Ts.q_c_ge_i, Ts.q_c_is_b, Ts.q_c_isn_b, Ts.q_c_in__s, Ts.q_c_nin_s, Ts.q_c_in__t_int, Ts.q_c_nin_t_int, Ts.q_c_in__t_str, Ts.q_c_nin_t_str, Ts.q_c_in__t_bl, Ts.q_c_nin_t_bl, Ts.q_c_is_n, Ts.q_c_isn_n, Ts.q_c_in__l, Ts.q_c_nin_l, Ts.q_nn_non, Ts.q_nn_bl, Ts.q_nn_int, Ts.q_nn_str, Ts.q_nn_tup, Ts.q_nn_lst, Ts.q_nn_dct, Ts.q_i_s, Ts.q_i_l, Ts.q_i_t, Ts.q_sl_s, Ts.q_sl_l, Ts.q_sl_t, Ts.q_f_len_s, Ts.q_f_len_l, Ts.q_f_len_t, Ts.q_f_abs, Ts.q_f_int_i, Ts.q_f_int_b, Ts.q_f_str, Ts.q_f_list_l, Ts.q_f_list_t, Ts.q_f_tup_l, Ts.q_f_tup_t, Ts.q_f_sum, Ts.q_f_all, Ts.q_f_any, Ts.q_f_max2, Ts.q_f_min2, Ts.q_f_maxl, Ts.q_f_minl, Ts.q_f_isi, Ts.q_m_join, Ts.q_m_upper, Ts.q_m_lower, Ts.q_m_islower, Ts.q_m_isupper, Ts.q_m_isdigit, Ts.q_m_isalnum, Ts.q_m_split, Ts.q_isstr, Ts.q_ni_non, Ts.q_is_str_non, Ts.q_is_tuple_non, Ts.q_is_int_non, Ts.q_is_bool_non, Ts.q_is_list_non, Ts.q_ni_bl, Ts.q_is_str_bl, Ts.q_is_tuple_bl, Ts.q_is_int_bl, Ts.q_is_bool_bl, Ts.q_is_list_bl, Ts.q_ni_int, Ts.q_is_str_int, Ts.q_is_tuple_int, Ts.q_is_int_int, Ts.q_is_bool_int, Ts.q_is_list_int, Ts.q_ni_str, Ts.q_is_str_str, Ts.q_is_tuple_str, Ts.q_is_int_str, Ts.q_is_bool_str, Ts.q_is_list_str, Ts.q_ni_tup, Ts.q_is_str_tup, Ts.q_is_tuple_tup, Ts.q_is_int_tup, Ts.q_is_bool_tup, Ts.q_is_list_tup, Ts.q_ni_lst, Ts.q_is_str_lst, Ts.q_is_tuple_lst, Ts.q_is_int_lst, Ts.q_is_bool_lst, Ts.q_is_list_lst, Ts.q_ni_dct, Ts.q_is_str_dct, Ts.q_is_tuple_dct, Ts.q_is_int_dct, Ts.q_is_bool_dct, Ts.q_is_list_dct, Ts.q_s_for, Ts.q_s_whl, Ts.q_e_lc, Option.some.injEq, exists_eq_left', exists_eq_left, D.bl.injEq, D.int.injEq, D.str.injEq, D.lst.injEq, D.tup.injEq, Ts.Sl.lst.injEq, List.map_cons, List.map_nil, List.length_cons, List.length_nil, List.getElem?_cons_zero, List.getElem?_cons_succ, List.set_cons_zero, List.set_cons_succ, and_true, true_and, exists_and_left, if_true, if_false, Bool.false_eq_true, reduceIte, reduceCtorEq, Bool.not_true, Bool.not_false]
      refine ⟨(ha a rfl).ok, (hb b rfl).ok, e _ _ ?_⟩
      congr 1
      rw [Bool.eq_iff_iff]
      simp only [beq_iff_eq, decide_eq_true_eq, Option.some.injEq]
end Lb
set_option Elab.async false
set_option linter.all false
set_option maxRecDepth 100000
set_option maxHeartbeats 1000000
namespace Lb
open PySem Ts
theorem ans_T {p : Pc} {t : List Nat} (hp : p.ok) (ht : Tx t) : ∀ s, ans p t = some s → Tx s := fun s h => ans_tx hp ht h
theorem spot_nil {p : Plc} (hp : p.ok) : spotT p [] = none := by
  obtain ⟨h1, h2, h3⟩ := hp
  unfold spotT spotBy
  rw [if_pos (by
    simp only [List.mem_cons, List.not_mem_nil, or_false] at h2
    show 0 < _
    omega)]
theorem last_at {α : Type} {xs : List α} {x : α} : L2.atI (xs ++ [x]) (-1) = some x := by
  unfold L2.atI L2.ixN
  rw [if_neg (by decide), if_pos (by rw [List.length_append]; simp; omega), List.length_append]
  have : (-1 + ((xs.length + [x].length : Nat) : Int)).toNat = xs.length := by simp; omega
  rw [this]
  simp
theorem cut_from {α : Type} (xs : List α) (i : Int) : ∃ n, cut xs (some i) none = xs.drop n := by
  unfold cut
  refine ⟨HT.sIx xs.length 0 (some i), ?_⟩
  rw [show HT.sIx xs.length xs.length none = xs.length from rfl, List.take_of_length_le (by rw [List.length_drop]; omega)]
def sp_k13 : PSpec := { ar := 1, G := List Int, pre := fun ns ds => ds = [dI ns] ∧ ns.length ≤ 63 ∧ BI ns, ret := fun _ r => r = .bl true }
def m_k13 : Sm := { fn := [sp_ans, sp_alikeT, sp_rowAns, sp_rowAns, sp_cell, sp_ans, sp_piece, sp_text], cn := [] }
theorem w_k13 (ns : List Int) (ds : List D) (hl : ds.length = 1) (hp : sp_k13.pre ns ds) : wpSs m_k13 b_law__2 (rho0 5 ds) (pt sp_k13 ns) := by
  obtain ⟨rfl, hn, hb⟩ := hp
  have hn : ns.length ≤ 63 := hn
  have e : ∀ ρ, (pt sp_k13 ns).rt (.bl true) ρ := fun ρ => rfl
  rw [show rho0 5 [dI ns] = [.val (dI ns), .no, .no, .no, .no] from rfl]
  generalize pt sp_k13 ns = P at e ⊢
  simp only [b_law__2, b_law__2_1, m_k13, x_cell, r_cell, x_text, r_text, false_implies, implies_true, Ts.q_o_v, Ts.q_o_k, Ts.q_o_g, Ts.q_o_bin, Ts.q_o_neg, Ts.q_o_cmp, Ts.q_o_cmp2, Ts.q_o_and, Ts.q_o_or, Ts.q_o_not, Ts.q_o_ite, Ts.q_o_tup, Ts.q_o_lst, Ts.q_o_ix, Ts.q_o_sl, Ts.q_o_call, Ts.q_o_bi, Ts.q_o_mt, Ts.q_o_lc, Ts.q_o_lrng, Ts.q_o_dic, Ts.q_o_dce, Ts.q_o_ise, Ts.q_o_o, Ts.q_od_v, Ts.q_od_o, Ts.q_ods_n, Ts.q_ods_c, Ts.q_sv_v, Ts.q_sv_l, Ts.q_own_l, Ts.q_isl_l, Ts.q_vs_v, Ts.q_vs_l, Ts.q_e_v, Ts.q_e_k, Ts.q_e_g, Ts.q_e_bin, Ts.q_e_neg, Ts.q_e_cmp, Ts.q_e_cmp2, Ts.q_e_and, Ts.q_e_or, Ts.q_e_not, Ts.q_e_ite, Ts.q_e_tup, Ts.q_e_lst, Ts.q_e_ix, Ts.q_e_sl, Ts.q_e_call, Ts.q_e_bi, Ts.q_e_mt, Ts.q_e_dic, Ts.q_e_dce, Ts.q_e_lrng, Ts.q_e_ise, Ts.q_es_n, Ts.q_es_c, Ts.q_os_n, Ts.q_os_c, Ts.q_oe_n, Ts.q_oe_s, Ts.q_if_n, Ts.q_if_s, Ts.q_it_of, Ts.q_it_r1, Ts.q_it_r2, Ts.q_it_en, Ts.q_it_z2, Ts.q_it_z3, Ts.q_nt_l, Ts.q_nt_s, Ts.q_im_s, Ts.q_im_l, Ts.q_im_t, Ts.q_s_set, Ts.q_s_new, Ts.q_s_unp, Ts.q_s_app, Ts.q_s_seti, Ts.q_s_ret, Ts.q_s_retn, Ts.q_s_ife, Ts.q_s_ex, Ts.q_s_pas, Ts.q_s_brk, Ts.q_s_cnt, Ts.q_s_rse, Ts.q_s_tri, Ts.q_ss_n, Ts.q_ss_c, Ts.q_tg_x, Ts.q_tg_xs, Ts.q_st_n, Ts.q_st_c, Ts.q_b_add_i, Ts.q_b_add_s, Ts.q_b_add_l, Ts.q_b_add_t, Ts.q_b_sub_i, Ts.q_b_mul_i, Ts.q_b_mul_s, Ts.q_b_fdiv_i, Ts.q_b_mod_i, Ts.q_b_pow_i, Ts.q_c_eq_a, Ts.q_c_ne_a, Ts.q_c_lt_i, Ts.q_c_le_i, Ts.q_c_gt_i, Ts.q_c_ge_i, Ts.q_c_is_b, Ts.q_c_isn_b, Ts.q_c_in__s, Ts.q_c_nin_s, Ts.q_c_in__t_int, Ts.q_c_nin_t_int, Ts.q_c_in__t_str, Ts.q_c_nin_t_str, Ts.q_c_in__t_bl, Ts.q_c_nin_t_bl, Ts.q_c_is_n, Ts.q_c_isn_n, Ts.q_c_in__l, Ts.q_c_nin_l, Ts.q_nn_non, Ts.q_nn_bl, Ts.q_nn_int, Ts.q_nn_str, Ts.q_nn_tup, Ts.q_nn_lst, Ts.q_nn_dct, Ts.q_i_s, Ts.q_i_l, Ts.q_i_t, Ts.q_sl_s, Ts.q_sl_l, Ts.q_sl_t, Ts.q_f_len_s, Ts.q_f_len_l, Ts.q_f_len_t, Ts.q_f_abs, Ts.q_f_int_i, Ts.q_f_int_b, Ts.q_f_str, Ts.q_f_list_l, Ts.q_f_list_t, Ts.q_f_tup_l, Ts.q_f_tup_t, Ts.q_f_sum, Ts.q_f_all, Ts.q_f_any, Ts.q_f_max2, Ts.q_f_min2, Ts.q_f_maxl, Ts.q_f_minl, Ts.q_f_isi, Ts.q_m_join, Ts.q_m_upper, Ts.q_m_lower, Ts.q_m_islower, Ts.q_m_isupper, Ts.q_m_isdigit, Ts.q_m_isalnum, Ts.q_m_split, Ts.q_isstr, Ts.q_ni_non, Ts.q_is_str_non, Ts.q_is_tuple_non, Ts.q_is_int_non, Ts.q_is_bool_non, Ts.q_is_list_non, Ts.q_ni_bl, Ts.q_is_str_bl, Ts.q_is_tuple_bl, Ts.q_is_int_bl, Ts.q_is_bool_bl, Ts.q_is_list_bl, Ts.q_ni_int, Ts.q_is_str_int, Ts.q_is_tuple_int, Ts.q_is_int_int, Ts.q_is_bool_int, Ts.q_is_list_int, Ts.q_ni_str, Ts.q_is_str_str, Ts.q_is_tuple_str, Ts.q_is_int_str, Ts.q_is_bool_str, Ts.q_is_list_str, Ts.q_ni_tup, Ts.q_is_str_tup, Ts.q_is_tuple_tup, Ts.q_is_int_tup, Ts.q_is_bool_tup, Ts.q_is_list_tup, Ts.q_ni_lst, Ts.q_is_str_lst, Ts.q_is_tuple_lst, Ts.q_is_int_lst, Ts.q_is_bool_lst, Ts.q_is_list_lst, Ts.q_ni_dct, Ts.q_is_str_dct, Ts.q_is_tuple_dct, Ts.q_is_int_dct, Ts.q_is_bool_dct, Ts.q_is_list_dct, Ts.q_s_for, Ts.q_s_whl, Ts.q_e_lc, Option.some.injEq, exists_eq_left', exists_eq_left, D.bl.injEq, D.int.injEq, D.str.injEq, D.lst.injEq, D.tup.injEq, Ts.Sl.lst.injEq, List.map_cons, List.map_nil, List.length_cons, List.length_nil, List.getElem?_cons_zero, List.getElem?_cons_succ, List.set_cons_zero, List.set_cons_succ, and_true, true_and, exists_and_left, if_true, if_false, Bool.false_eq_true, reduceIte, reduceCtorEq, Bool.not_true, Bool.not_false]
  refine ⟨rfl, (ns, 0), ⟨rfl, rn_lit rfl, hb⟩, fun c hc => ⟨rfl, (c, 24), ⟨rfl, (by decide : (0 : Int) ≤ 24), (by decide : (24 : Int) ≤ 100)⟩, fun t ht htl => ?_⟩⟩
  have htl : t.length ≤ 24 := by
    have htl : (t.length : Int) ≤ 24 := htl
    omega
  simp only [dI, b_law__2_2, List.length_map, Ts.q_o_v, Ts.q_o_k, Ts.q_o_g, Ts.q_o_bin, Ts.q_o_neg, Ts.q_o_cmp, Ts.q_o_cmp2, Ts.q_o_and, Ts.q_o_or, Ts.q_o_not, Ts.q_o_ite, Ts.q_o_tup, Ts.q_o_lst, Ts.q_o_ix, Ts.q_o_sl, Ts.q_o_call, Ts.q_o_bi, Ts.q_o_mt, Ts.q_o_lc, Ts.q_o_lrng, Ts.q_o_dic, Ts.q_o_dce, Ts.q_o_ise, Ts.q_o_o, Ts.q_od_v, Ts.q_od_o, Ts.q_ods_n, Ts.q_ods_c, Ts.q_sv_v, Ts.q_sv_l, Ts.q_own_l, Ts.q_isl_l, Ts.q_vs_v, Ts.q_vs_l, Ts.q_e_v, Ts.q_e_k, Ts.q_e_g, Ts.q_e_bin, Ts.q_e_neg, Ts.q_e_cmp, Ts.q_e_cmp2, Ts.q_e_and, Ts.q_e_or, Ts.q_e_not, Ts.q_e_ite, Ts.q_e_tup, Ts.q_e_lst, Ts.q_e_ix, Ts.q_e_sl, Ts.q_e_call, Ts.q_e_bi, Ts.q_e_mt, Ts.q_e_dic, Ts.q_e_dce, Ts.q_e_lrng, Ts.q_e_ise, Ts.q_es_n, Ts.q_es_c, Ts.q_os_n, Ts.q_os_c, Ts.q_oe_n, Ts.q_oe_s, Ts.q_if_n, Ts.q_if_s, Ts.q_it_of, Ts.q_it_r1, Ts.q_it_r2, Ts.q_it_en, Ts.q_it_z2, Ts.q_it_z3, Ts.q_nt_l, Ts.q_nt_s, Ts.q_im_s, Ts.q_im_l, Ts.q_im_t, Ts.q_s_set, Ts.q_s_new, Ts.q_s_unp, Ts.q_s_app, Ts.q_s_seti, Ts.q_s_ret, Ts.q_s_retn, Ts.q_s_ife, Ts.q_s_ex, Ts.q_s_pas, Ts.q_s_brk, Ts.q_s_cnt, Ts.q_s_rse, Ts.q_s_tri, Ts.q_ss_n, Ts.q_ss_c, Ts.q_tg_x, Ts.q_tg_xs, Ts.q_st_n, Ts.q_st_c, Ts.q_b_add_i, Ts.q_b_add_s, Ts.q_b_add_l, Ts.q_b_add_t, Ts.q_b_sub_i, Ts.q_b_mul_i, Ts.q_b_mul_s, Ts.q_b_fdiv_i, Ts.q_b_mod_i, Ts.q_b_pow_i, Ts.q_c_eq_a, Ts.q_c_ne_a, Ts.q_c_lt_i, Ts.q_c_le_i, Ts.q_c_gt_i, Ts.q_c_ge_i, Ts.q_c_is_b, Ts.q_c_isn_b, Ts.q_c_in__s, Ts.q_c_nin_s, Ts.q_c_in__t_int, Ts.q_c_nin_t_int, Ts.q_c_in__t_str, Ts.q_c_nin_t_str, Ts.q_c_in__t_bl, Ts.q_c_nin_t_bl, Ts.q_c_is_n, Ts.q_c_isn_n, Ts.q_c_in__l, Ts.q_c_nin_l, Ts.q_nn_non, Ts.q_nn_bl, Ts.q_nn_int, Ts.q_nn_str, Ts.q_nn_tup, Ts.q_nn_lst, Ts.q_nn_dct, Ts.q_i_s, Ts.q_i_l, Ts.q_i_t, Ts.q_sl_s, Ts.q_sl_l, Ts.q_sl_t, Ts.q_f_len_s, Ts.q_f_len_l, Ts.q_f_len_t, Ts.q_f_abs, Ts.q_f_int_i, Ts.q_f_int_b, Ts.q_f_str, Ts.q_f_list_l, Ts.q_f_list_t, Ts.q_f_tup_l, Ts.q_f_tup_t, Ts.q_f_sum, Ts.q_f_all, Ts.q_f_any, Ts.q_f_max2, Ts.q_f_min2, Ts.q_f_maxl, Ts.q_f_minl, Ts.q_f_isi, Ts.q_m_join, Ts.q_m_upper, Ts.q_m_lower, Ts.q_m_islower, Ts.q_m_isupper, Ts.q_m_isdigit, Ts.q_m_isalnum, Ts.q_m_split, Ts.q_isstr, Ts.q_ni_non, Ts.q_is_str_non, Ts.q_is_tuple_non, Ts.q_is_int_non, Ts.q_is_bool_non, Ts.q_is_list_non, Ts.q_ni_bl, Ts.q_is_str_bl, Ts.q_is_tuple_bl, Ts.q_is_int_bl, Ts.q_is_bool_bl, Ts.q_is_list_bl, Ts.q_ni_int, Ts.q_is_str_int, Ts.q_is_tuple_int, Ts.q_is_int_int, Ts.q_is_bool_int, Ts.q_is_list_int, Ts.q_ni_str, Ts.q_is_str_str, Ts.q_is_tuple_str, Ts.q_is_int_str, Ts.q_is_bool_str, Ts.q_is_list_str, Ts.q_ni_tup, Ts.q_is_str_tup, Ts.q_is_tuple_tup, Ts.q_is_int_tup, Ts.q_is_bool_tup, Ts.q_is_list_tup, Ts.q_ni_lst, Ts.q_is_str_lst, Ts.q_is_tuple_lst, Ts.q_is_int_lst, Ts.q_is_bool_lst, Ts.q_is_list_lst, Ts.q_ni_dct, Ts.q_is_str_dct, Ts.q_is_tuple_dct, Ts.q_is_int_dct, Ts.q_is_bool_dct, Ts.q_is_list_dct, Ts.q_s_for, Ts.q_s_whl, Ts.q_e_lc, Option.some.injEq, exists_eq_left', exists_eq_left, D.bl.injEq, D.int.injEq, D.str.injEq, D.lst.injEq, D.tup.injEq, Ts.Sl.lst.injEq, List.map_cons, List.map_nil, List.length_cons, List.length_nil, List.getElem?_cons_zero, List.getElem?_cons_succ, List.set_cons_zero, List.set_cons_succ, and_true, true_and, exists_and_left, if_true, if_false, Bool.false_eq_true, reduceIte, reduceCtorEq, Bool.not_true, Bool.not_false]
  have hmm : ∀ x : Int, 0 ≤ x → ∃ m : Int, (if (if x < 42 then x else 42) > 3 then (if x < 42 then x else 42) else 3) = m ∧ 3 ≤ m ∧ m ≤ 42 := fun x h => ⟨_, rfl, by split <;> omega, by split <;> (try split) <;> omega⟩
  obtain ⟨mm, em, m0, m1⟩ := hmm ns.length (by omega)
  rw [em]
  refine ⟨by decide, by decide, ⟨by decide, by decide⟩, ⟨by omega, by omega⟩, ?_⟩
  have hI0 : dI ns = .lst (ns.map .int) := rfl
  refine for_in (fun i ρ => ∃ ps x3 x4, ρ = [.val (.lst (ns.map .int)), .val (.str t), .lst (ps.map dPc), x3, x4] ∧ Rok ps ∧ ps.length = i) ⟨[], .no, .no, rfl, (fun p hp => by cases hp), rfl⟩ (fun i d ρ hd hI => ?_) (fun ρ hI => ?_)
  · obtain ⟨ps, x3, x4, rfl, hps, hpl⟩ := hI
    have hi : i < (mm - 2).toNat := by
      have := (List.getElem?_eq_some_iff.mp hd).1
      rw [rng_len] at this
      exact this
    rw [rng_get _ _ i hi] at hd
    cases hd
    have sg : ∀ {k : Int}, 0 ≤ k → k < 1000 → sp_cell.pre (ns, k) [.lst (ns.map .int), .int k] := fun h0 h1 => ⟨rfl, ⟨h0, Int.lt_trans h1 (by decide)⟩, hb⟩
    simp only [b_law__2_L1, x_cell, r_cell, x_piece, r_piece, false_implies, implies_true, Ts.q_o_v, Ts.q_o_k, Ts.q_o_g, Ts.q_o_bin, Ts.q_o_neg, Ts.q_o_cmp, Ts.q_o_cmp2, Ts.q_o_and, Ts.q_o_or, Ts.q_o_not, Ts.q_o_ite, Ts.q_o_tup, Ts.q_o_lst, Ts.q_o_ix, Ts.q_o_sl, Ts.q_o_call, Ts.q_o_bi, Ts.q_o_mt, Ts.q_o_lc, Ts.q_o_lrng, Ts.q_o_dic, Ts.q_o_dce, Ts.q_o_ise, Ts.q_o_o, Ts.q_od_v, Ts.q_od_o, Ts.q_ods_n, Ts.q_ods_c, Ts.q_sv_v, Ts.q_sv_l, Ts.q_own_l, Ts.q_isl_l, Ts.q_vs_v, Ts.q_vs_l, Ts.q_e_v, Ts.q_e_k, Ts.q_e_g, Ts.q_e_bin, Ts.q_e_neg, Ts.q_e_cmp, Ts.q_e_cmp2, Ts.q_e_and, Ts.q_e_or, Ts.q_e_not, Ts.q_e_ite, Ts.q_e_tup, Ts.q_e_lst, Ts.q_e_ix, Ts.q_e_sl, Ts.q_e_call, Ts.q_e_bi, Ts.q_e_mt, Ts.q_e_dic, Ts.q_e_dce, Ts.q_e_lrng, Ts.q_e_ise, Ts.q_es_n, Ts.q_es_c, Ts.q_os_n, Ts.q_os_c, Ts.q_oe_n, Ts.q_oe_s, Ts.q_if_n, Ts.q_if_s, Ts.q_it_of, Ts.q_it_r1, Ts.q_it_r2, Ts.q_it_en, Ts.q_it_z2, Ts.q_it_z3, Ts.q_nt_l, Ts.q_nt_s, Ts.q_im_s, Ts.q_im_l, Ts.q_im_t, Ts.q_s_set, Ts.q_s_new, Ts.q_s_unp, Ts.q_s_app, Ts.q_s_seti, Ts.q_s_ret, Ts.q_s_retn, Ts.q_s_ife, Ts.q_s_ex, Ts.q_s_pas, Ts.q_s_brk, Ts.q_s_cnt, Ts.q_s_rse, Ts.q_s_tri, Ts.q_ss_n, Ts.q_ss_c, Ts.q_tg_x, Ts.q_tg_xs, Ts.q_st_n, Ts.q_st_c, Ts.q_b_add_i, Ts.q_b_add_s, Ts.q_b_add_l, Ts.q_b_add_t, Ts.q_b_sub_i, Ts.q_b_mul_i, Ts.q_b_mul_s, Ts.q_b_fdiv_i, Ts.q_b_mod_i, Ts.q_b_pow_i, Ts.q_c_eq_a, Ts.q_c_ne_a, Ts.q_c_lt_i, Ts.q_c_le_i, Ts.q_c_gt_i, Ts.q_c_ge_i, Ts.q_c_is_b, Ts.q_c_isn_b, Ts.q_c_in__s, Ts.q_c_nin_s, Ts.q_c_in__t_int, Ts.q_c_nin_t_int, Ts.q_c_in__t_str, Ts.q_c_nin_t_str, Ts.q_c_in__t_bl, Ts.q_c_nin_t_bl, Ts.q_c_is_n, Ts.q_c_isn_n, Ts.q_c_in__l, Ts.q_c_nin_l, Ts.q_nn_non, Ts.q_nn_bl, Ts.q_nn_int, Ts.q_nn_str, Ts.q_nn_tup, Ts.q_nn_lst, Ts.q_nn_dct, Ts.q_i_s, Ts.q_i_l, Ts.q_i_t, Ts.q_sl_s, Ts.q_sl_l, Ts.q_sl_t, Ts.q_f_len_s, Ts.q_f_len_l, Ts.q_f_len_t, Ts.q_f_abs, Ts.q_f_int_i, Ts.q_f_int_b, Ts.q_f_str, Ts.q_f_list_l, Ts.q_f_list_t, Ts.q_f_tup_l, Ts.q_f_tup_t, Ts.q_f_sum, Ts.q_f_all, Ts.q_f_any, Ts.q_f_max2, Ts.q_f_min2, Ts.q_f_maxl, Ts.q_f_minl, Ts.q_f_isi, Ts.q_m_join, Ts.q_m_upper, Ts.q_m_lower, Ts.q_m_islower, Ts.q_m_isupper, Ts.q_m_isdigit, Ts.q_m_isalnum, Ts.q_m_split, Ts.q_isstr, Ts.q_ni_non, Ts.q_is_str_non, Ts.q_is_tuple_non, Ts.q_is_int_non, Ts.q_is_bool_non, Ts.q_is_list_non, Ts.q_ni_bl, Ts.q_is_str_bl, Ts.q_is_tuple_bl, Ts.q_is_int_bl, Ts.q_is_bool_bl, Ts.q_is_list_bl, Ts.q_ni_int, Ts.q_is_str_int, Ts.q_is_tuple_int, Ts.q_is_int_int, Ts.q_is_bool_int, Ts.q_is_list_int, Ts.q_ni_str, Ts.q_is_str_str, Ts.q_is_tuple_str, Ts.q_is_int_str, Ts.q_is_bool_str, Ts.q_is_list_str, Ts.q_ni_tup, Ts.q_is_str_tup, Ts.q_is_tuple_tup, Ts.q_is_int_tup, Ts.q_is_bool_tup, Ts.q_is_list_tup, Ts.q_ni_lst, Ts.q_is_str_lst, Ts.q_is_tuple_lst, Ts.q_is_int_lst, Ts.q_is_bool_lst, Ts.q_is_list_lst, Ts.q_ni_dct, Ts.q_is_str_dct, Ts.q_is_tuple_dct, Ts.q_is_int_dct, Ts.q_is_bool_dct, Ts.q_is_list_dct, Ts.q_s_for, Ts.q_s_whl, Ts.q_e_lc, Option.some.injEq, exists_eq_left', exists_eq_left, D.bl.injEq, D.int.injEq, D.str.injEq, D.lst.injEq, D.tup.injEq, Ts.Sl.lst.injEq, List.map_cons, List.map_nil, List.length_cons, List.length_nil, List.getElem?_cons_zero, List.getElem?_cons_succ, List.set_cons_zero, List.set_cons_succ, and_true, true_and, exists_and_left, if_true, if_false, Bool.false_eq_true, reduceIte, reduceCtorEq, Bool.not_true, Bool.not_false]
    refine ⟨rfl, (ns, 2 + i), sg (by omega) (by omega), fun c1 hc1 => ⟨rfl, c1, rfl, fun p hp => ⟨by rw [List.length_map]; show _ < 16777216; omega, ?_⟩⟩⟩
    have hps2 : Rok (ps ++ [p]) := fun q hq => (List.mem_append.mp hq).elim (hps q) fun h => by rw [List.mem_singleton.mp h]; exact hp
    have hmap : ps.map dPc ++ [dPc p] = (ps ++ [p]).map dPc := by rw [List.map_append]; rfl
    have hat : L2.atI (ps.map dPc ++ [dPc p]) (-1) = some (dPc p) := last_at
    simp only [b_law__2_L1_1, hat, x_ans, r_ans, x_alikeT, r_alikeT, forall_eq, false_implies, implies_true, Ts.q_o_v, Ts.q_o_k, Ts.q_o_g, Ts.q_o_bin, Ts.q_o_neg, Ts.q_o_cmp, Ts.q_o_cmp2, Ts.q_o_and, Ts.q_o_or, Ts.q_o_not, Ts.q_o_ite, Ts.q_o_tup, Ts.q_o_lst, Ts.q_o_ix, Ts.q_o_sl, Ts.q_o_call, Ts.q_o_bi, Ts.q_o_mt, Ts.q_o_lc, Ts.q_o_lrng, Ts.q_o_dic, Ts.q_o_dce, Ts.q_o_ise, Ts.q_o_o, Ts.q_od_v, Ts.q_od_o, Ts.q_ods_n, Ts.q_ods_c, Ts.q_sv_v, Ts.q_sv_l, Ts.q_own_l, Ts.q_isl_l, Ts.q_vs_v, Ts.q_vs_l, Ts.q_e_v, Ts.q_e_k, Ts.q_e_g, Ts.q_e_bin, Ts.q_e_neg, Ts.q_e_cmp, Ts.q_e_cmp2, Ts.q_e_and, Ts.q_e_or, Ts.q_e_not, Ts.q_e_ite, Ts.q_e_tup, Ts.q_e_lst, Ts.q_e_ix, Ts.q_e_sl, Ts.q_e_call, Ts.q_e_bi, Ts.q_e_mt, Ts.q_e_dic, Ts.q_e_dce, Ts.q_e_lrng, Ts.q_e_ise, Ts.q_es_n, Ts.q_es_c, Ts.q_os_n, Ts.q_os_c, Ts.q_oe_n, Ts.q_oe_s, Ts.q_if_n, Ts.q_if_s, Ts.q_it_of, Ts.q_it_r1, Ts.q_it_r2, Ts.q_it_en, Ts.q_it_z2, Ts.q_it_z3, Ts.q_nt_l, Ts.q_nt_s, Ts.q_im_s, Ts.q_im_l, Ts.q_im_t, Ts.q_s_set, Ts.q_s_new, Ts.q_s_unp, Ts.q_s_app, Ts.q_s_seti, Ts.q_s_ret, Ts.q_s_retn, Ts.q_s_ife, Ts.q_s_ex, Ts.q_s_pas, Ts.q_s_brk, Ts.q_s_cnt, Ts.q_s_rse, Ts.q_s_tri, Ts.q_ss_n, Ts.q_ss_c, Ts.q_tg_x, Ts.q_tg_xs, Ts.q_st_n, Ts.q_st_c, Ts.q_b_add_i, Ts.q_b_add_s, Ts.q_b_add_l, Ts.q_b_add_t, Ts.q_b_sub_i, Ts.q_b_mul_i, Ts.q_b_mul_s, Ts.q_b_fdiv_i, Ts.q_b_mod_i, Ts.q_b_pow_i, Ts.q_c_eq_a, Ts.q_c_ne_a, Ts.q_c_lt_i, Ts.q_c_le_i, Ts.q_c_gt_i, Ts.q_c_ge_i, Ts.q_c_is_b, Ts.q_c_isn_b, Ts.q_c_in__s, Ts.q_c_nin_s, Ts.q_c_in__t_int, Ts.q_c_nin_t_int, Ts.q_c_in__t_str, Ts.q_c_nin_t_str, Ts.q_c_in__t_bl, Ts.q_c_nin_t_bl, Ts.q_c_is_n, Ts.q_c_isn_n, Ts.q_c_in__l, Ts.q_c_nin_l, Ts.q_nn_non, Ts.q_nn_bl, Ts.q_nn_int, Ts.q_nn_str, Ts.q_nn_tup, Ts.q_nn_lst, Ts.q_nn_dct, Ts.q_i_s, Ts.q_i_l, Ts.q_i_t, Ts.q_sl_s, Ts.q_sl_l, Ts.q_sl_t, Ts.q_f_len_s, Ts.q_f_len_l, Ts.q_f_len_t, Ts.q_f_abs, Ts.q_f_int_i, Ts.q_f_int_b, Ts.q_f_str, Ts.q_f_list_l, Ts.q_f_list_t, Ts.q_f_tup_l, Ts.q_f_tup_t, Ts.q_f_sum, Ts.q_f_all, Ts.q_f_any, Ts.q_f_max2, Ts.q_f_min2, Ts.q_f_maxl, Ts.q_f_minl, Ts.q_f_isi, Ts.q_m_join, Ts.q_m_upper, Ts.q_m_lower, Ts.q_m_islower, Ts.q_m_isupper, Ts.q_m_isdigit, Ts.q_m_isalnum, Ts.q_m_split, Ts.q_isstr, Ts.q_ni_non, Ts.q_is_str_non, Ts.q_is_tuple_non, Ts.q_is_int_non, Ts.q_is_bool_non, Ts.q_is_list_non, Ts.q_ni_bl, Ts.q_is_str_bl, Ts.q_is_tuple_bl, Ts.q_is_int_bl, Ts.q_is_bool_bl, Ts.q_is_list_bl, Ts.q_ni_int, Ts.q_is_str_int, Ts.q_is_tuple_int, Ts.q_is_int_int, Ts.q_is_bool_int, Ts.q_is_list_int, Ts.q_ni_str, Ts.q_is_str_str, Ts.q_is_tuple_str, Ts.q_is_int_str, Ts.q_is_bool_str, Ts.q_is_list_str, Ts.q_ni_tup, Ts.q_is_str_tup, Ts.q_is_tuple_tup, Ts.q_is_int_tup, Ts.q_is_bool_tup, Ts.q_is_list_tup, Ts.q_ni_lst, Ts.q_is_str_lst, Ts.q_is_tuple_lst, Ts.q_is_int_lst, Ts.q_is_bool_lst, Ts.q_is_list_lst, Ts.q_ni_dct, Ts.q_is_str_dct, Ts.q_is_tuple_dct, Ts.q_is_int_dct, Ts.q_is_bool_dct, Ts.q_is_list_dct, Ts.q_s_for, Ts.q_s_whl, Ts.q_e_lc, Option.some.injEq, exists_eq_left', exists_eq_left, D.bl.injEq, D.int.injEq, D.str.injEq, D.lst.injEq, D.tup.injEq, Ts.Sl.lst.injEq, List.map_cons, List.map_nil, List.length_cons, List.length_nil, List.getElem?_cons_zero, List.getElem?_cons_succ, List.set_cons_zero, List.set_cons_succ, and_true, true_and, exists_and_left, if_true, if_false, Bool.false_eq_true, reduceIte, reduceCtorEq, Bool.not_true, Bool.not_false]
    refine ⟨rfl, (p, t), ⟨rfl, hp, ht, le100 htl⟩, rfl, (p, t), ⟨rfl, hp, ht, le100 htl⟩, rfl, (ans p t, ans p t), ⟨rfl, ans_T hp ht, ans_T hp ht⟩, ?_⟩
    rw [decide_eq_true rfl]
    simp only [b_law__2_L1_2, b_law__2_L1_3, hmap, x_cell, r_cell, x_rowAns, r_rowAns, x_alikeT, r_alikeT, forall_eq, false_implies, implies_true, Ts.q_o_v, Ts.q_o_k, Ts.q_o_g, Ts.q_o_bin, Ts.q_o_neg, Ts.q_o_cmp, Ts.q_o_cmp2, Ts.q_o_and, Ts.q_o_or, Ts.q_o_not, Ts.q_o_ite, Ts.q_o_tup, Ts.q_o_lst, Ts.q_o_ix, Ts.q_o_sl, Ts.q_o_call, Ts.q_o_bi, Ts.q_o_mt, Ts.q_o_lc, Ts.q_o_lrng, Ts.q_o_dic, Ts.q_o_dce, Ts.q_o_ise, Ts.q_o_o, Ts.q_od_v, Ts.q_od_o, Ts.q_ods_n, Ts.q_ods_c, Ts.q_sv_v, Ts.q_sv_l, Ts.q_own_l, Ts.q_isl_l, Ts.q_vs_v, Ts.q_vs_l, Ts.q_e_v, Ts.q_e_k, Ts.q_e_g, Ts.q_e_bin, Ts.q_e_neg, Ts.q_e_cmp, Ts.q_e_cmp2, Ts.q_e_and, Ts.q_e_or, Ts.q_e_not, Ts.q_e_ite, Ts.q_e_tup, Ts.q_e_lst, Ts.q_e_ix, Ts.q_e_sl, Ts.q_e_call, Ts.q_e_bi, Ts.q_e_mt, Ts.q_e_dic, Ts.q_e_dce, Ts.q_e_lrng, Ts.q_e_ise, Ts.q_es_n, Ts.q_es_c, Ts.q_os_n, Ts.q_os_c, Ts.q_oe_n, Ts.q_oe_s, Ts.q_if_n, Ts.q_if_s, Ts.q_it_of, Ts.q_it_r1, Ts.q_it_r2, Ts.q_it_en, Ts.q_it_z2, Ts.q_it_z3, Ts.q_nt_l, Ts.q_nt_s, Ts.q_im_s, Ts.q_im_l, Ts.q_im_t, Ts.q_s_set, Ts.q_s_new, Ts.q_s_unp, Ts.q_s_app, Ts.q_s_seti, Ts.q_s_ret, Ts.q_s_retn, Ts.q_s_ife, Ts.q_s_ex, Ts.q_s_pas, Ts.q_s_brk, Ts.q_s_cnt, Ts.q_s_rse, Ts.q_s_tri, Ts.q_ss_n, Ts.q_ss_c, Ts.q_tg_x, Ts.q_tg_xs, Ts.q_st_n, Ts.q_st_c, Ts.q_b_add_i, Ts.q_b_add_s, Ts.q_b_add_l, Ts.q_b_add_t, Ts.q_b_sub_i, Ts.q_b_mul_i, Ts.q_b_mul_s, Ts.q_b_fdiv_i, Ts.q_b_mod_i, Ts.q_b_pow_i, Ts.q_c_eq_a, Ts.q_c_ne_a, Ts.q_c_lt_i, Ts.q_c_le_i, Ts.q_c_gt_i, Ts.q_c_ge_i, Ts.q_c_is_b, Ts.q_c_isn_b, Ts.q_c_in__s, Ts.q_c_nin_s, Ts.q_c_in__t_int, Ts.q_c_nin_t_int, Ts.q_c_in__t_str, Ts.q_c_nin_t_str, Ts.q_c_in__t_bl, Ts.q_c_nin_t_bl, Ts.q_c_is_n, Ts.q_c_isn_n, Ts.q_c_in__l, Ts.q_c_nin_l, Ts.q_nn_non, Ts.q_nn_bl, Ts.q_nn_int, Ts.q_nn_str, Ts.q_nn_tup, Ts.q_nn_lst, Ts.q_nn_dct, Ts.q_i_s, Ts.q_i_l, Ts.q_i_t, Ts.q_sl_s, Ts.q_sl_l, Ts.q_sl_t, Ts.q_f_len_s, Ts.q_f_len_l, Ts.q_f_len_t, Ts.q_f_abs, Ts.q_f_int_i, Ts.q_f_int_b, Ts.q_f_str, Ts.q_f_list_l, Ts.q_f_list_t, Ts.q_f_tup_l, Ts.q_f_tup_t, Ts.q_f_sum, Ts.q_f_all, Ts.q_f_any, Ts.q_f_max2, Ts.q_f_min2, Ts.q_f_maxl, Ts.q_f_minl, Ts.q_f_isi, Ts.q_m_join, Ts.q_m_upper, Ts.q_m_lower, Ts.q_m_islower, Ts.q_m_isupper, Ts.q_m_isdigit, Ts.q_m_isalnum, Ts.q_m_split, Ts.q_isstr, Ts.q_ni_non, Ts.q_is_str_non, Ts.q_is_tuple_non, Ts.q_is_int_non, Ts.q_is_bool_non, Ts.q_is_list_non, Ts.q_ni_bl, Ts.q_is_str_bl, Ts.q_is_tuple_bl, Ts.q_is_int_bl, Ts.q_is_bool_bl, Ts.q_is_list_bl, Ts.q_ni_int, Ts.q_is_str_int, Ts.q_is_tuple_int, Ts.q_is_int_int, Ts.q_is_bool_int, Ts.q_is_list_int, Ts.q_ni_str, Ts.q_is_str_str, Ts.q_is_tuple_str, Ts.q_is_int_str, Ts.q_is_bool_str, Ts.q_is_list_str, Ts.q_ni_tup, Ts.q_is_str_tup, Ts.q_is_tuple_tup, Ts.q_is_int_tup, Ts.q_is_bool_tup, Ts.q_is_list_tup, Ts.q_ni_lst, Ts.q_is_str_lst, Ts.q_is_tuple_lst, Ts.q_is_int_lst, Ts.q_is_bool_lst, Ts.q_is_list_lst, Ts.q_ni_dct, Ts.q_is_str_dct, Ts.q_is_tuple_dct, Ts.q_is_int_dct, Ts.q_is_bool_dct, Ts.q_is_list_dct, Ts.q_s_for, Ts.q_s_whl, Ts.q_e_lc, Option.some.injEq, exists_eq_left', exists_eq_left, D.bl.injEq, D.int.injEq, D.str.injEq, D.lst.injEq, D.tup.injEq, Ts.Sl.lst.injEq, List.map_cons, List.map_nil, List.length_cons, List.length_nil, List.getElem?_cons_zero, List.getElem?_cons_succ, List.set_cons_zero, List.set_cons_succ, and_true, true_and, exists_and_left, if_true, if_false, Bool.false_eq_true, reduceIte, reduceCtorEq, Bool.not_true, Bool.not_false]
    refine ⟨rfl, (ns, 2 + i + 1), sg (by omega) (by omega), fun c2 hc2 => ⟨by decide, ?_⟩⟩
    obtain ⟨n, hcut⟩ := cut_from (ps ++ [p]) (-1 - c2 % 3)
    have hcut' : cut ((ps ++ [p]).map dPc) (some (-1 - c2 % 3)) none = ((ps ++ [p]).drop n).map dPc := by
      unfold cut at hcut ⊢
      rw [List.length_map, ← List.map_drop, ← List.map_take, hcut]
    rw [hcut']
    have hr : Rok ((ps ++ [p]).drop n) := fun q hq => hps2 q (List.mem_of_mem_drop hq)
    have hrl : ((ps ++ [p]).drop n).length ≤ 1000 := by rw [List.length_drop, List.length_append]; simp; omega
    refine ⟨rfl, ((ps ++ [p]).drop n, t), ⟨rfl, hr, hrl, ht, htl⟩, rfl, ((ps ++ [p]).drop n, t), ⟨rfl, hr, hrl, ht, htl⟩, rfl, (rowAns ((ps ++ [p]).drop n) t, rowAns ((ps ++ [p]).drop n) t), ⟨rfl, fun s hs => rowAns_tx hr ht hs, fun s hs => rowAns_tx hr ht hs⟩, ?_⟩
    rw [decide_eq_true rfl]
    exact ⟨ps ++ [p], _, _, rfl, hps2, by rw [List.length_append]; simp; omega⟩
  · obtain ⟨ps, x3, x4, rfl, hps, hpl⟩ := hI
    rw [rng_len] at hpl
    cases ps with
    | nil => simp at hpl; omega
    | cons p ps =>
      have hp : p.ok := hps p List.mem_cons_self
      simp only [b_law__2_3, at0, x_ans, r_ans, forall_eq, false_implies, implies_true, Ts.q_o_v, Ts.q_o_k, Ts.q_o_g, Ts.q_o_bin, Ts.q_o_neg, Ts.q_o_cmp, Ts.q_o_cmp2, Ts.q_o_and, Ts.q_o_or, Ts.q_o_not, Ts.q_o_ite, Ts.q_o_tup, Ts.q_o_lst, Ts.q_o_ix, Ts.q_o_sl, Ts.q_o_call, Ts.q_o_bi, Ts.q_o_mt, Ts.q_o_lc, Ts.q_o_lrng, Ts.q_o_dic, Ts.q_o_dce, Ts.q_o_ise, Ts.q_o_o, Ts.q_od_v, Ts.q_od_o, Ts.q_ods_n, Ts.q_ods_c, Ts.q_sv_v, Ts.q_sv_l, Ts.q_own_l, Ts.q_isl_l, Ts.q_vs_v, Ts.q_vs_l, Ts.q_e_v, Ts.q_e_k, Ts.q_e_g, Ts.q_e_bin, Ts.q_e_neg, Ts.q_e_cmp, Ts.q_e_cmp2, Ts.q_e_and, Ts.q_e_or, Ts.q_e_not, Ts.q_e_ite, Ts.q_e_tup, Ts.q_e_lst, Ts.q_e_ix, Ts.q_e_sl, Ts.q_e_call, Ts.q_e_bi, Ts.q_e_mt, Ts.q_e_dic, Ts.q_e_dce, Ts.q_e_lrng, Ts.q_e_ise, Ts.q_es_n, Ts.q_es_c, Ts.q_os_n, Ts.q_os_c, Ts.q_oe_n, Ts.q_oe_s, Ts.q_if_n, Ts.q_if_s, Ts.q_it_of, Ts.q_it_r1, Ts.q_it_r2, Ts.q_it_en, Ts.q_it_z2, Ts.q_it_z3, Ts.q_nt_l, Ts.q_nt_s, Ts.q_im_s, Ts.q_im_l, Ts.q_im_t, Ts.q_s_set, Ts.q_s_new, Ts.q_s_unp, Ts.q_s_app, Ts.q_s_seti, Ts.q_s_ret, Ts.q_s_retn, Ts.q_s_ife, Ts.q_s_ex, Ts.q_s_pas, Ts.q_s_brk, Ts.q_s_cnt, Ts.q_s_rse, Ts.q_s_tri, Ts.q_ss_n, Ts.q_ss_c, Ts.q_tg_x, Ts.q_tg_xs, Ts.q_st_n, Ts.q_st_c, Ts.q_b_add_i, Ts.q_b_add_s, Ts.q_b_add_l, Ts.q_b_add_t, Ts.q_b_sub_i, Ts.q_b_mul_i, Ts.q_b_mul_s, Ts.q_b_fdiv_i, Ts.q_b_mod_i, Ts.q_b_pow_i, Ts.q_c_eq_a, Ts.q_c_ne_a, Ts.q_c_lt_i, Ts.q_c_le_i, Ts.q_c_gt_i, Ts.q_c_ge_i, Ts.q_c_is_b, Ts.q_c_isn_b, Ts.q_c_in__s, Ts.q_c_nin_s, Ts.q_c_in__t_int, Ts.q_c_nin_t_int, Ts.q_c_in__t_str, Ts.q_c_nin_t_str, Ts.q_c_in__t_bl, Ts.q_c_nin_t_bl, Ts.q_c_is_n, Ts.q_c_isn_n, Ts.q_c_in__l, Ts.q_c_nin_l, Ts.q_nn_non, Ts.q_nn_bl, Ts.q_nn_int, Ts.q_nn_str, Ts.q_nn_tup, Ts.q_nn_lst, Ts.q_nn_dct, Ts.q_i_s, Ts.q_i_l, Ts.q_i_t, Ts.q_sl_s, Ts.q_sl_l, Ts.q_sl_t, Ts.q_f_len_s, Ts.q_f_len_l, Ts.q_f_len_t, Ts.q_f_abs, Ts.q_f_int_i, Ts.q_f_int_b, Ts.q_f_str, Ts.q_f_list_l, Ts.q_f_list_t, Ts.q_f_tup_l, Ts.q_f_tup_t, Ts.q_f_sum, Ts.q_f_all, Ts.q_f_any, Ts.q_f_max2, Ts.q_f_min2, Ts.q_f_maxl, Ts.q_f_minl, Ts.q_f_isi, Ts.q_m_join, Ts.q_m_upper, Ts.q_m_lower, Ts.q_m_islower, Ts.q_m_isupper, Ts.q_m_isdigit, Ts.q_m_isalnum, Ts.q_m_split, Ts.q_isstr, Ts.q_ni_non, Ts.q_is_str_non, Ts.q_is_tuple_non, Ts.q_is_int_non, Ts.q_is_bool_non, Ts.q_is_list_non, Ts.q_ni_bl, Ts.q_is_str_bl, Ts.q_is_tuple_bl, Ts.q_is_int_bl, Ts.q_is_bool_bl, Ts.q_is_list_bl, Ts.q_ni_int, Ts.q_is_str_int, Ts.q_is_tuple_int, Ts.q_is_int_int, Ts.q_is_bool_int, Ts.q_is_list_int, Ts.q_ni_str, Ts.q_is_str_str, Ts.q_is_tuple_str, Ts.q_is_int_str, Ts.q_is_bool_str, Ts.q_is_list_str, Ts.q_ni_tup, Ts.q_is_str_tup, Ts.q_is_tuple_tup, Ts.q_is_int_tup, Ts.q_is_bool_tup, Ts.q_is_list_tup, Ts.q_ni_lst, Ts.q_is_str_lst, Ts.q_is_tuple_lst, Ts.q_is_int_lst, Ts.q_is_bool_lst, Ts.q_is_list_lst, Ts.q_ni_dct, Ts.q_is_str_dct, Ts.q_is_tuple_dct, Ts.q_is_int_dct, Ts.q_is_bool_dct, Ts.q_is_list_dct, Ts.q_s_for, Ts.q_s_whl, Ts.q_e_lc, Option.some.injEq, exists_eq_left', exists_eq_left, D.bl.injEq, D.int.injEq, D.str.injEq, D.lst.injEq, D.tup.injEq, Ts.Sl.lst.injEq, List.map_cons, List.map_nil, List.length_cons, List.length_nil, List.getElem?_cons_zero, List.getElem?_cons_succ, List.set_cons_zero, List.set_cons_succ, and_true, true_and, exists_and_left, if_true, if_false, Bool.false_eq_true, reduceIte, reduceCtorEq, Bool.not_true, Bool.not_false]
      refine ⟨rfl, (p, []), ⟨rfl, hp, Tx.nil, le100 (t := []) (by decide)⟩, ?_⟩
      cases p with
      | word w =>
        simp only [ans, dT, dPc, at0, eq_str, Ts.q_o_v, Ts.q_o_k, Ts.q_o_g, Ts.q_o_bin, Ts.q_o_neg, Ts.q_o_cmp, Ts.q_o_cmp2, Ts.q_o_and, Ts.q_o_or, Ts.q_o_not, Ts.q_o_ite, Ts.q_o_tup, Ts.q_o_lst, Ts.q_o_ix, Ts.q_o_sl, Ts.q_o_call, Ts.q_o_bi, Ts.q_o_mt, Ts.q_o_lc, Ts.q_o_lrng, Ts.q_o_dic, Ts.q_o_dce, Ts.q_o_ise, Ts.q_o_o, Ts.q_od_v, Ts.q_od_o, Ts.q_ods_n, Ts.q_ods_c, Ts.q_sv_v, Ts.q_sv_l, Ts.q_own_l, Ts.q_isl_l, Ts.q_vs_v, Ts.q_vs_l, Ts.q_e_v, Ts.q_e_k, Ts.q_e_g, Ts.q_e_bin, Ts.q_e_neg, Ts.q_e_cmp, Ts.q_e_cmp2, Ts.q_e_and, Ts.q_e_or, Ts.q_e_not, Ts.q_e_ite, Ts.q_e_tup, Ts.q_e_lst, Ts.q_e_ix, Ts.q_e_sl, Ts.q_e_call, Ts.q_e_bi, Ts.q_e_mt, Ts.q_e_dic, Ts.q_e_dce, Ts.q_e_lrng, Ts.q_e_ise, Ts.q_es_n, Ts.q_es_c, Ts.q_os_n, Ts.q_os_c, Ts.q_oe_n, Ts.q_oe_s, Ts.q_if_n, Ts.q_if_s, Ts.q_it_of, Ts.q_it_r1, Ts.q_it_r2, Ts.q_it_en, Ts.q_it_z2, Ts.q_it_z3, Ts.q_nt_l, Ts.q_nt_s, Ts.q_im_s, Ts.q_im_l, Ts.q_im_t, Ts.q_s_set, Ts.q_s_new, Ts.q_s_unp, Ts.q_s_app, Ts.q_s_seti, Ts.q_s_ret, Ts.q_s_retn, Ts.q_s_ife, Ts.q_s_ex, Ts.q_s_pas, Ts.q_s_brk, Ts.q_s_cnt, Ts.q_s_rse, Ts.q_s_tri, Ts.q_ss_n, Ts.q_ss_c, Ts.q_tg_x, Ts.q_tg_xs, Ts.q_st_n, Ts.q_st_c, Ts.q_b_add_i, Ts.q_b_add_s, Ts.q_b_add_l, Ts.q_b_add_t, Ts.q_b_sub_i, Ts.q_b_mul_i, Ts.q_b_mul_s, Ts.q_b_fdiv_i, Ts.q_b_mod_i, Ts.q_b_pow_i, Ts.q_c_eq_a, Ts.q_c_ne_a, Ts.q_c_lt_i, Ts.q_c_le_i, Ts.q_c_gt_i, Ts.q_c_ge_i, Ts.q_c_is_b, Ts.q_c_isn_b, Ts.q_c_in__s, Ts.q_c_nin_s, Ts.q_c_in__t_int, Ts.q_c_nin_t_int, Ts.q_c_in__t_str, Ts.q_c_nin_t_str, Ts.q_c_in__t_bl, Ts.q_c_nin_t_bl, Ts.q_c_is_n, Ts.q_c_isn_n, Ts.q_c_in__l, Ts.q_c_nin_l, Ts.q_nn_non, Ts.q_nn_bl, Ts.q_nn_int, Ts.q_nn_str, Ts.q_nn_tup, Ts.q_nn_lst, Ts.q_nn_dct, Ts.q_i_s, Ts.q_i_l, Ts.q_i_t, Ts.q_sl_s, Ts.q_sl_l, Ts.q_sl_t, Ts.q_f_len_s, Ts.q_f_len_l, Ts.q_f_len_t, Ts.q_f_abs, Ts.q_f_int_i, Ts.q_f_int_b, Ts.q_f_str, Ts.q_f_list_l, Ts.q_f_list_t, Ts.q_f_tup_l, Ts.q_f_tup_t, Ts.q_f_sum, Ts.q_f_all, Ts.q_f_any, Ts.q_f_max2, Ts.q_f_min2, Ts.q_f_maxl, Ts.q_f_minl, Ts.q_f_isi, Ts.q_m_join, Ts.q_m_upper, Ts.q_m_lower, Ts.q_m_islower, Ts.q_m_isupper, Ts.q_m_isdigit, Ts.q_m_isalnum, Ts.q_m_split, Ts.q_isstr, Ts.q_ni_non, Ts.q_is_str_non, Ts.q_is_tuple_non, Ts.q_is_int_non, Ts.q_is_bool_non, Ts.q_is_list_non, Ts.q_ni_bl, Ts.q_is_str_bl, Ts.q_is_tuple_bl, Ts.q_is_int_bl, Ts.q_is_bool_bl, Ts.q_is_list_bl, Ts.q_ni_int, Ts.q_is_str_int, Ts.q_is_tuple_int, Ts.q_is_int_int, Ts.q_is_bool_int, Ts.q_is_list_int, Ts.q_ni_str, Ts.q_is_str_str, Ts.q_is_tuple_str, Ts.q_is_int_str, Ts.q_is_bool_str, Ts.q_is_list_str, Ts.q_ni_tup, Ts.q_is_str_tup, Ts.q_is_tuple_tup, Ts.q_is_int_tup, Ts.q_is_bool_tup, Ts.q_is_list_tup, Ts.q_ni_lst, Ts.q_is_str_lst, Ts.q_is_tuple_lst, Ts.q_is_int_lst, Ts.q_is_bool_lst, Ts.q_is_list_lst, Ts.q_ni_dct, Ts.q_is_str_dct, Ts.q_is_tuple_dct, Ts.q_is_int_dct, Ts.q_is_bool_dct, Ts.q_is_list_dct, Ts.q_s_for, Ts.q_s_whl, Ts.q_e_lc, Option.some.injEq, exists_eq_left', exists_eq_left, D.bl.injEq, D.int.injEq, D.str.injEq, D.lst.injEq, D.tup.injEq, Ts.Sl.lst.injEq, List.map_cons, List.map_nil, List.length_cons, List.length_nil, List.getElem?_cons_zero, List.getElem?_cons_succ, List.set_cons_zero, List.set_cons_succ, and_true, true_and, exists_and_left, if_true, if_false, Bool.false_eq_true, reduceIte, reduceCtorEq, Bool.not_true, Bool.not_false]
        exact ⟨by decide, by decide, e _⟩
      | st d a b =>
        obtain ⟨hd, ha, hb'⟩ := hp
        have q : ans (.st d a b) [] = none := by
          show ansSt d a b [] = none
          unfold ansSt
          rw [spot_nil ha]
        simp only [q, dT, Ts.q_o_v, Ts.q_o_k, Ts.q_o_g, Ts.q_o_bin, Ts.q_o_neg, Ts.q_o_cmp, Ts.q_o_cmp2, Ts.q_o_and, Ts.q_o_or, Ts.q_o_not, Ts.q_o_ite, Ts.q_o_tup, Ts.q_o_lst, Ts.q_o_ix, Ts.q_o_sl, Ts.q_o_call, Ts.q_o_bi, Ts.q_o_mt, Ts.q_o_lc, Ts.q_o_lrng, Ts.q_o_dic, Ts.q_o_dce, Ts.q_o_ise, Ts.q_o_o, Ts.q_od_v, Ts.q_od_o, Ts.q_ods_n, Ts.q_ods_c, Ts.q_sv_v, Ts.q_sv_l, Ts.q_own_l, Ts.q_isl_l, Ts.q_vs_v, Ts.q_vs_l, Ts.q_e_v, Ts.q_e_k, Ts.q_e_g, Ts.q_e_bin, Ts.q_e_neg, Ts.q_e_cmp, Ts.q_e_cmp2, Ts.q_e_and, Ts.q_e_or, Ts.q_e_not, Ts.q_e_ite, Ts.q_e_tup, Ts.q_e_lst, Ts.q_e_ix, Ts.q_e_sl, Ts.q_e_call, Ts.q_e_bi, Ts.q_e_mt, Ts.q_e_dic, Ts.q_e_dce, Ts.q_e_lrng, Ts.q_e_ise, Ts.q_es_n, Ts.q_es_c, Ts.q_os_n, Ts.q_os_c, Ts.q_oe_n, Ts.q_oe_s, Ts.q_if_n, Ts.q_if_s, Ts.q_it_of, Ts.q_it_r1, Ts.q_it_r2, Ts.q_it_en, Ts.q_it_z2, Ts.q_it_z3, Ts.q_nt_l, Ts.q_nt_s, Ts.q_im_s, Ts.q_im_l, Ts.q_im_t, Ts.q_s_set, Ts.q_s_new, Ts.q_s_unp, Ts.q_s_app, Ts.q_s_seti, Ts.q_s_ret, Ts.q_s_retn, Ts.q_s_ife, Ts.q_s_ex, Ts.q_s_pas, Ts.q_s_brk, Ts.q_s_cnt, Ts.q_s_rse, Ts.q_s_tri, Ts.q_ss_n, Ts.q_ss_c, Ts.q_tg_x, Ts.q_tg_xs, Ts.q_st_n, Ts.q_st_c, Ts.q_b_add_i, Ts.q_b_add_s, Ts.q_b_add_l, Ts.q_b_add_t, Ts.q_b_sub_i, Ts.q_b_mul_i, Ts.q_b_mul_s, Ts.q_b_fdiv_i, Ts.q_b_mod_i, Ts.q_b_pow_i, Ts.q_c_eq_a, Ts.q_c_ne_a, Ts.q_c_lt_i, Ts.q_c_le_i, Ts.q_c_gt_i, Ts.q_c_ge_i, Ts.q_c_is_b, Ts.q_c_isn_b, Ts.q_c_in__s, Ts.q_c_nin_s, Ts.q_c_in__t_int, Ts.q_c_nin_t_int, Ts.q_c_in__t_str, Ts.q_c_nin_t_str, Ts.q_c_in__t_bl, Ts.q_c_nin_t_bl, Ts.q_c_is_n, Ts.q_c_isn_n, Ts.q_c_in__l, Ts.q_c_nin_l, Ts.q_nn_non, Ts.q_nn_bl, Ts.q_nn_int, Ts.q_nn_str, Ts.q_nn_tup, Ts.q_nn_lst, Ts.q_nn_dct, Ts.q_i_s, Ts.q_i_l, Ts.q_i_t, Ts.q_sl_s, Ts.q_sl_l, Ts.q_sl_t, Ts.q_f_len_s, Ts.q_f_len_l, Ts.q_f_len_t, Ts.q_f_abs, Ts.q_f_int_i, Ts.q_f_int_b, Ts.q_f_str, Ts.q_f_list_l, Ts.q_f_list_t, Ts.q_f_tup_l, Ts.q_f_tup_t, Ts.q_f_sum, Ts.q_f_all, Ts.q_f_any, Ts.q_f_max2, Ts.q_f_min2, Ts.q_f_maxl, Ts.q_f_minl, Ts.q_f_isi, Ts.q_m_join, Ts.q_m_upper, Ts.q_m_lower, Ts.q_m_islower, Ts.q_m_isupper, Ts.q_m_isdigit, Ts.q_m_isalnum, Ts.q_m_split, Ts.q_isstr, Ts.q_ni_non, Ts.q_is_str_non, Ts.q_is_tuple_non, Ts.q_is_int_non, Ts.q_is_bool_non, Ts.q_is_list_non, Ts.q_ni_bl, Ts.q_is_str_bl, Ts.q_is_tuple_bl, Ts.q_is_int_bl, Ts.q_is_bool_bl, Ts.q_is_list_bl, Ts.q_ni_int, Ts.q_is_str_int, Ts.q_is_tuple_int, Ts.q_is_int_int, Ts.q_is_bool_int, Ts.q_is_list_int, Ts.q_ni_str, Ts.q_is_str_str, Ts.q_is_tuple_str, Ts.q_is_int_str, Ts.q_is_bool_str, Ts.q_is_list_str, Ts.q_ni_tup, Ts.q_is_str_tup, Ts.q_is_tuple_tup, Ts.q_is_int_tup, Ts.q_is_bool_tup, Ts.q_is_list_tup, Ts.q_ni_lst, Ts.q_is_str_lst, Ts.q_is_tuple_lst, Ts.q_is_int_lst, Ts.q_is_bool_lst, Ts.q_is_list_lst, Ts.q_ni_dct, Ts.q_is_str_dct, Ts.q_is_tuple_dct, Ts.q_is_int_dct, Ts.q_is_bool_dct, Ts.q_is_list_dct, Ts.q_s_for, Ts.q_s_whl, Ts.q_e_lc, Option.some.injEq, exists_eq_left', exists_eq_left, D.bl.injEq, D.int.injEq, D.str.injEq, D.lst.injEq, D.tup.injEq, Ts.Sl.lst.injEq, List.map_cons, List.map_nil, List.length_cons, List.length_nil, List.getElem?_cons_zero, List.getElem?_cons_succ, List.set_cons_zero, List.set_cons_succ, and_true, true_and, exists_and_left, if_true, if_false, Bool.false_eq_true, reduceIte, reduceCtorEq, Bool.not_true, Bool.not_false]
        exact e _
end Lb
set_option Elab.async false
set_option linter.all false
set_option maxRecDepth 100000
set_option maxHeartbeats 1000000
namespace K13
open PySem PySem.Spec PyProof.Rows L2 Ts Lb
def top (i : Nat) : Stmt := PySem.Challenge.pw_byexample_k13_answers_of_pieces.main.body.getD i (.Pass ⟨0, 0, 0, 0⟩)
abbrev s_kind_of : Stmt := top 4
def t_kind_of : Tb := { N := ["sign"], fn := [], cn := ["FIGURES", "GREAT", "SMALL"], bl := [] }
theorem c_kind_of : chkSs t_kind_of (defScope s_kind_of) b_kind_of (defBody s_kind_of) = true := by decide +kernel
theorem f_kind_of : FnScope t_kind_of.N ["sign"] (defScope s_kind_of) := ⟨rfl, rfl, rfl, by decide +kernel, rfl, by decide +kernel, by decide +kernel⟩
abbrev s_standings : Stmt := top 6
def t_standings : Tb := { N := ["kind", "text", "at", "sign"], fn := ["kind_of"], cn := [], bl := ["enumerate", "list", "range", "len"] }
theorem c_standings : chkSs t_standings (defScope s_standings) b_standings (defBody s_standings) = true := by decide +kernel
theorem f_standings : FnScope t_standings.N ["kind", "text"] (defScope s_standings) := ⟨rfl, rfl, rfl, by decide +kernel, rfl, by decide +kernel, by decide +kernel⟩
abbrev s_spot_by : Stmt := top 7
def t_spot_by : Tb := { N := ["stands", "nth", "edge"], fn := [], cn := [], bl := ["len", "abs"] }
theorem c_spot_by : chkSs t_spot_by (defScope s_spot_by) b_spot_by (defBody s_spot_by) = true := by decide +kernel
theorem f_spot_by : FnScope t_spot_by.N ["stands", "nth", "edge"] (defScope s_spot_by) := ⟨rfl, rfl, rfl, by decide +kernel, rfl, by decide +kernel, by decide +kernel⟩
abbrev s_spot : Stmt := top 8
def t_spot : Tb := { N := ["place", "text"], fn := ["spot_by", "standings"], cn := [], bl := [] }
theorem c_spot : chkSs t_spot (defScope s_spot) b_spot (defBody s_spot) = true := by decide +kernel
theorem f_spot : FnScope t_spot.N ["place", "text"] (defScope s_spot) := ⟨rfl, rfl, rfl, by decide +kernel, rfl, by decide +kernel, by decide +kernel⟩
abbrev s_changed : Stmt := top 10
def t_changed : Tb := { N := ["deed", "signs"], fn := [], cn := [], bl := [] }
theorem c_changed : chkSs t_changed (defScope s_changed) b_changed (defBody s_changed) = true := by decide +kernel
theorem f_changed : FnScope t_changed.N ["deed", "signs"] (defScope s_changed) := ⟨rfl, rfl, rfl, by decide +kernel, rfl, by decide +kernel, by decide +kernel⟩
abbrev s_answer_of : Stmt := top 11
def t_answer_of : Tb := { N := ["piece", "text", "start", "end"], fn := ["changed", "spot"], cn := [], bl := [] }
theorem c_answer_of : chkSs t_answer_of (defScope s_answer_of) b_answer_of (defBody s_answer_of) = true := by decide +kernel
theorem f_answer_of : FnScope t_answer_of.N ["piece", "text"] (defScope s_answer_of) := ⟨rfl, rfl, rfl, by decide +kernel, rfl, by decide +kernel, by decide +kernel⟩
abbrev s_row_answer : Stmt := top 12
def t_row_answer : Tb := { N := ["row", "text", "answer", "piece", "more"], fn := ["answer_of"], cn := [], bl := [] }
theorem c_row_answer : chkSs t_row_answer (defScope s_row_answer) b_row_answer (defBody s_row_answer) = true := by decide +kernel
theorem f_row_answer : FnScope t_row_answer.N ["row", "text"] (defScope s_row_answer) := ⟨rfl, rfl, rfl, by decide +kernel, rfl, by decide +kernel, by decide +kernel⟩
abbrev s__law_cell : Stmt := top 14
def t__law_cell : Tb := { N := ["_law_script", "_law_k", "_law_number"], fn := [], cn := [], bl := ["len"] }
theorem c__law_cell : chkSs t__law_cell (defScope s__law_cell) b__law_cell (defBody s__law_cell) = true := by decide +kernel
theorem f__law_cell : FnScope t__law_cell.N ["_law_script", "_law_k"] (defScope s__law_cell) := ⟨rfl, rfl, rfl, by decide +kernel, rfl, by decide +kernel, by decide +kernel⟩
abbrev s__law_text : Stmt := top 15
def t__law_text : Tb := { N := ["_law_cell_here", "_law_most", "_law_some", "_law_size", "_law_text_here", "_law_k", "_law_signs"], fn := [], cn := [], bl := ["range", "len"] }
theorem c__law_text : chkSs t__law_text (defScope s__law_text) b__law_text__2 (defBody s__law_text) = true := by decide +kernel
theorem f__law_text : FnScope t__law_text.N ["_law_cell_here", "_law_most"] (defScope s__law_text) := ⟨rfl, rfl, rfl, by decide +kernel, rfl, by decide +kernel, by decide +kernel⟩
abbrev s__law_place : Stmt := top 16
def t__law_place : Tb := { N := ["_law_cell_here", "_law_kind_here"], fn := [], cn := [], bl := [] }
theorem c__law_place : chkSs t__law_place (defScope s__law_place) b__law_place (defBody s__law_place) = true := by decide +kernel
theorem f__law_place : FnScope t__law_place.N ["_law_cell_here"] (defScope s__law_place) := ⟨rfl, rfl, rfl, by decide +kernel, rfl, by decide +kernel, by decide +kernel⟩
abbrev s__law_word : Stmt := top 17
def t__law_word : Tb := { N := ["_law_cell_here", "_law_most", "_law_some", "_law_word_here"], fn := ["_law_text"], cn := [], bl := [] }
theorem c__law_word : chkSs t__law_word (defScope s__law_word) b__law_word (defBody s__law_word) = true := by decide +kernel
theorem f__law_word : FnScope t__law_word.N ["_law_cell_here", "_law_most"] (defScope s__law_word) := ⟨rfl, rfl, rfl, by decide +kernel, rfl, by decide +kernel, by decide +kernel⟩
abbrev s__law_piece : Stmt := top 18
def t__law_piece : Tb := { N := ["_law_cell_here", "_law_most", "_law_deed"], fn := ["_law_place", "_law_word"], cn := [], bl := [] }
theorem c__law_piece : chkSs t__law_piece (defScope s__law_piece) b__law_piece (defBody s__law_piece) = true := by decide +kernel
theorem f__law_piece : FnScope t__law_piece.N ["_law_cell_here", "_law_most"] (defScope s__law_piece) := ⟨rfl, rfl, rfl, by decide +kernel, rfl, by decide +kernel, by decide +kernel⟩
abbrev s__law_kind : Stmt := top 19
def t__law_kind : Tb := { N := ["_law_sign"], fn := [], cn := [], bl := [] }
theorem c__law_kind : chkSs t__law_kind (defScope s__law_kind) b__law_kind (defBody s__law_kind) = true := by decide +kernel
theorem f__law_kind : FnScope t__law_kind.N ["_law_sign"] (defScope s__law_kind) := ⟨rfl, rfl, rfl, by decide +kernel, rfl, by decide +kernel, by decide +kernel⟩
abbrev s__law_spot : Stmt := top 20
def t__law_spot : Tb := { N := ["_law_place_here", "_law_text_here", "_law_found", "_law_kind_here", "_law_nth", "_law_edge", "_law_k"], fn := ["_law_kind"], cn := [], bl := ["int", "len", "abs", "range"] }
theorem c__law_spot : chkSs t__law_spot (defScope s__law_spot) b__law_spot (defBody s__law_spot) = true := by decide +kernel
theorem f__law_spot : FnScope t__law_spot.N ["_law_place_here", "_law_text_here"] (defScope s__law_spot) := ⟨rfl, rfl, rfl, by decide +kernel, rfl, by decide +kernel, by decide +kernel⟩
abbrev s__law_piece_answer : Stmt := top 21
def t__law_piece_answer : Tb := { N := ["_law_piece_here", "_law_text_here", "_law_start", "_law_end"], fn := ["_law_spot"], cn := [], bl := [] }
theorem c__law_piece_answer : chkSs t__law_piece_answer (defScope s__law_piece_answer) b__law_piece_answer (defBody s__law_piece_answer) = true := by decide +kernel
theorem f__law_piece_answer : FnScope t__law_piece_answer.N ["_law_piece_here", "_law_text_here"] (defScope s__law_piece_answer) := ⟨rfl, rfl, rfl, by decide +kernel, rfl, by decide +kernel, by decide +kernel⟩
abbrev s__law_row_answer : Stmt := top 22
def t__law_row_answer : Tb := { N := ["_law_row", "_law_text_here", "_law_found", "_law_piece_here"], fn := ["_law_piece_answer"], cn := [], bl := [] }
theorem c__law_row_answer : chkSs t__law_row_answer (defScope s__law_row_answer) b__law_row_answer (defBody s__law_row_answer) = true := by decide +kernel
theorem f__law_row_answer : FnScope t__law_row_answer.N ["_law_row", "_law_text_here"] (defScope s__law_row_answer) := ⟨rfl, rfl, rfl, by decide +kernel, rfl, by decide +kernel, by decide +kernel⟩
abbrev s__law_alike : Stmt := top 23
def t__law_alike : Tb := { N := ["_law_found", "_law_due"], fn := [], cn := [], bl := ["isinstance", "str"] }
theorem c__law_alike : chkSs t__law_alike (defScope s__law_alike) b__law_alike__2 (defBody s__law_alike) = true := by decide +kernel
theorem f__law_alike : FnScope t__law_alike.N ["_law_found", "_law_due"] (defScope s__law_alike) := ⟨rfl, rfl, rfl, by decide +kernel, rfl, by decide +kernel, by decide +kernel⟩
abbrev s_law : Stmt := top 24
def t_law : Tb := { N := ["_law_script", "_law_text_here", "_law_pieces", "_law_k", "_law_row"], fn := ["answer_of", "_law_alike", "_law_row_answer", "row_answer", "_law_cell", "_law_piece_answer", "_law_piece", "_law_text"], cn := [], bl := ["range", "max", "min", "len", "tuple"] }
theorem c_law : chkSs t_law (defScope s_law) b_law__2 (defBody s_law) = true := by decide +kernel
theorem f_law : FnScope t_law.N ["_law_script"] (defScope s_law) := ⟨rfl, rfl, rfl, by decide +kernel, rfl, by decide +kernel, by decide +kernel⟩
end K13
set_option Elab.async false
set_option linter.all false
set_option maxRecDepth 100000
set_option maxHeartbeats 8000000
namespace K13
section
open PySem PySem.Spec PyProof.Rows L2 Ts Lb
abbrev xad0 : Nat → Addr := fun _ => 0
theorem all_mk {l : PySem.W.OpenLaw} {w : World} {K : PySem.W.Frag} {h : Heap} {mg : Str → Option Value} {fa : Addr} (X : K.In h) (G : h.Ns mainGlobals mg) (hfa : mg "law" = some (.ref fa))
    {f0 : Addr} {od0 an0 : Option Addr} {sl0 : Array (Option Value)} {oc0 kV0 dc0 pm0 cd0 ct0 : Value} (a0 : PySem.W.nsIn K mainGlobals "changed" = some (some (.ref f0)))
    (l0 : K.lookup f0 = some ⟨oc0, od0, .func (PySem.W.fnOf "changed" "changed" (defArgs s_changed) (defBody s_changed) (defScope s_changed) .none kV0 dc0 pm0 an0 cd0 ct0), sl0⟩) (c0 : PySem.W.codeIn K cd0 "changed" = true) (k0 : PySem.W.keepIn K (.ref f0) = true)
    {f1 : Addr} {od1 an1 : Option Addr} {sl1 : Array (Option Value)} {oc1 kV1 dc1 pm1 cd1 ct1 : Value} (a1 : PySem.W.nsIn K mainGlobals "kind_of" = some (some (.ref f1)))
    (l1 : K.lookup f1 = some ⟨oc1, od1, .func (PySem.W.fnOf "kind_of" "kind_of" (defArgs s_kind_of) (defBody s_kind_of) (defScope s_kind_of) .none kV1 dc1 pm1 an1 cd1 ct1), sl1⟩) (c1 : PySem.W.codeIn K cd1 "kind_of" = true) (k1 : PySem.W.keepIn K (.ref f1) = true)
    {f2 : Addr} {od2 an2 : Option Addr} {sl2 : Array (Option Value)} {oc2 kV2 dc2 pm2 cd2 ct2 : Value} (a2 : PySem.W.nsIn K mainGlobals "standings" = some (some (.ref f2)))
    (l2 : K.lookup f2 = some ⟨oc2, od2, .func (PySem.W.fnOf "standings" "standings" (defArgs s_standings) (defBody s_standings) (defScope s_standings) .none kV2 dc2 pm2 an2 cd2 ct2), sl2⟩) (c2 : PySem.W.codeIn K cd2 "standings" = true) (k2 : PySem.W.keepIn K (.ref f2) = true)
    {f3 : Addr} {od3 an3 : Option Addr} {sl3 : Array (Option Value)} {oc3 kV3 dc3 pm3 cd3 ct3 : Value} (a3 : PySem.W.nsIn K mainGlobals "spot_by" = some (some (.ref f3)))
    (l3 : K.lookup f3 = some ⟨oc3, od3, .func (PySem.W.fnOf "spot_by" "spot_by" (defArgs s_spot_by) (defBody s_spot_by) (defScope s_spot_by) .none kV3 dc3 pm3 an3 cd3 ct3), sl3⟩) (c3 : PySem.W.codeIn K cd3 "spot_by" = true) (k3 : PySem.W.keepIn K (.ref f3) = true)
    {f4 : Addr} {od4 an4 : Option Addr} {sl4 : Array (Option Value)} {oc4 kV4 dc4 pm4 cd4 ct4 : Value} (a4 : PySem.W.nsIn K mainGlobals "spot" = some (some (.ref f4)))
    (l4 : K.lookup f4 = some ⟨oc4, od4, .func (PySem.W.fnOf "spot" "spot" (defArgs s_spot) (defBody s_spot) (defScope s_spot) .none kV4 dc4 pm4 an4 cd4 ct4), sl4⟩) (c4 : PySem.W.codeIn K cd4 "spot" = true) (k4 : PySem.W.keepIn K (.ref f4) = true)
    {f5 : Addr} {od5 an5 : Option Addr} {sl5 : Array (Option Value)} {oc5 kV5 dc5 pm5 cd5 ct5 : Value} (a5 : PySem.W.nsIn K mainGlobals "answer_of" = some (some (.ref f5)))
    (l5 : K.lookup f5 = some ⟨oc5, od5, .func (PySem.W.fnOf "answer_of" "answer_of" (defArgs s_answer_of) (defBody s_answer_of) (defScope s_answer_of) .none kV5 dc5 pm5 an5 cd5 ct5), sl5⟩) (c5 : PySem.W.codeIn K cd5 "answer_of" = true) (k5 : PySem.W.keepIn K (.ref f5) = true)
    {f6 : Addr} {od6 an6 : Option Addr} {sl6 : Array (Option Value)} {oc6 kV6 dc6 pm6 cd6 ct6 : Value} (a6 : PySem.W.nsIn K mainGlobals "row_answer" = some (some (.ref f6)))
    (l6 : K.lookup f6 = some ⟨oc6, od6, .func (PySem.W.fnOf "row_answer" "row_answer" (defArgs s_row_answer) (defBody s_row_answer) (defScope s_row_answer) .none kV6 dc6 pm6 an6 cd6 ct6), sl6⟩) (c6 : PySem.W.codeIn K cd6 "row_answer" = true) (k6 : PySem.W.keepIn K (.ref f6) = true)
    {f7 : Addr} {od7 an7 : Option Addr} {sl7 : Array (Option Value)} {oc7 kV7 dc7 pm7 cd7 ct7 : Value} (a7 : PySem.W.nsIn K mainGlobals "_law_cell" = some (some (.ref f7)))
    (l7 : K.lookup f7 = some ⟨oc7, od7, .func (PySem.W.fnOf "_law_cell" "_law_cell" (defArgs s__law_cell) (defBody s__law_cell) (defScope s__law_cell) .none kV7 dc7 pm7 an7 cd7 ct7), sl7⟩) (c7 : PySem.W.codeIn K cd7 "_law_cell" = true) (k7 : PySem.W.keepIn K (.ref f7) = true)
    {f8 : Addr} {od8 an8 : Option Addr} {sl8 : Array (Option Value)} {oc8 kV8 dc8 pm8 cd8 ct8 : Value} (a8 : PySem.W.nsIn K mainGlobals "_law_text" = some (some (.ref f8)))
    (l8 : K.lookup f8 = some ⟨oc8, od8, .func (PySem.W.fnOf "_law_text" "_law_text" (defArgs s__law_text) (defBody s__law_text) (defScope s__law_text) .none kV8 dc8 pm8 an8 cd8 ct8), sl8⟩) (c8 : PySem.W.codeIn K cd8 "_law_text" = true) (k8 : PySem.W.keepIn K (.ref f8) = true)
    {f9 : Addr} {od9 an9 : Option Addr} {sl9 : Array (Option Value)} {oc9 kV9 dc9 pm9 cd9 ct9 : Value} (a9 : PySem.W.nsIn K mainGlobals "_law_place" = some (some (.ref f9)))
    (l9 : K.lookup f9 = some ⟨oc9, od9, .func (PySem.W.fnOf "_law_place" "_law_place" (defArgs s__law_place) (defBody s__law_place) (defScope s__law_place) .none kV9 dc9 pm9 an9 cd9 ct9), sl9⟩) (c9 : PySem.W.codeIn K cd9 "_law_place" = true) (k9 : PySem.W.keepIn K (.ref f9) = true)
    {f10 : Addr} {od10 an10 : Option Addr} {sl10 : Array (Option Value)} {oc10 kV10 dc10 pm10 cd10 ct10 : Value} (a10 : PySem.W.nsIn K mainGlobals "_law_word" = some (some (.ref f10)))
    (l10 : K.lookup f10 = some ⟨oc10, od10, .func (PySem.W.fnOf "_law_word" "_law_word" (defArgs s__law_word) (defBody s__law_word) (defScope s__law_word) .none kV10 dc10 pm10 an10 cd10 ct10), sl10⟩) (c10 : PySem.W.codeIn K cd10 "_law_word" = true) (k10 : PySem.W.keepIn K (.ref f10) = true)
    {f11 : Addr} {od11 an11 : Option Addr} {sl11 : Array (Option Value)} {oc11 kV11 dc11 pm11 cd11 ct11 : Value} (a11 : PySem.W.nsIn K mainGlobals "_law_piece" = some (some (.ref f11)))
    (l11 : K.lookup f11 = some ⟨oc11, od11, .func (PySem.W.fnOf "_law_piece" "_law_piece" (defArgs s__law_piece) (defBody s__law_piece) (defScope s__law_piece) .none kV11 dc11 pm11 an11 cd11 ct11), sl11⟩) (c11 : PySem.W.codeIn K cd11 "_law_piece" = true) (k11 : PySem.W.keepIn K (.ref f11) = true)
    {f12 : Addr} {od12 an12 : Option Addr} {sl12 : Array (Option Value)} {oc12 kV12 dc12 pm12 cd12 ct12 : Value} (a12 : PySem.W.nsIn K mainGlobals "_law_kind" = some (some (.ref f12)))
    (l12 : K.lookup f12 = some ⟨oc12, od12, .func (PySem.W.fnOf "_law_kind" "_law_kind" (defArgs s__law_kind) (defBody s__law_kind) (defScope s__law_kind) .none kV12 dc12 pm12 an12 cd12 ct12), sl12⟩) (c12 : PySem.W.codeIn K cd12 "_law_kind" = true) (k12 : PySem.W.keepIn K (.ref f12) = true)
    {f13 : Addr} {od13 an13 : Option Addr} {sl13 : Array (Option Value)} {oc13 kV13 dc13 pm13 cd13 ct13 : Value} (a13 : PySem.W.nsIn K mainGlobals "_law_spot" = some (some (.ref f13)))
    (l13 : K.lookup f13 = some ⟨oc13, od13, .func (PySem.W.fnOf "_law_spot" "_law_spot" (defArgs s__law_spot) (defBody s__law_spot) (defScope s__law_spot) .none kV13 dc13 pm13 an13 cd13 ct13), sl13⟩) (c13 : PySem.W.codeIn K cd13 "_law_spot" = true) (k13 : PySem.W.keepIn K (.ref f13) = true)
    {f14 : Addr} {od14 an14 : Option Addr} {sl14 : Array (Option Value)} {oc14 kV14 dc14 pm14 cd14 ct14 : Value} (a14 : PySem.W.nsIn K mainGlobals "_law_piece_answer" = some (some (.ref f14)))
    (l14 : K.lookup f14 = some ⟨oc14, od14, .func (PySem.W.fnOf "_law_piece_answer" "_law_piece_answer" (defArgs s__law_piece_answer) (defBody s__law_piece_answer) (defScope s__law_piece_answer) .none kV14 dc14 pm14 an14 cd14 ct14), sl14⟩) (c14 : PySem.W.codeIn K cd14 "_law_piece_answer" = true) (k14 : PySem.W.keepIn K (.ref f14) = true)
    {f15 : Addr} {od15 an15 : Option Addr} {sl15 : Array (Option Value)} {oc15 kV15 dc15 pm15 cd15 ct15 : Value} (a15 : PySem.W.nsIn K mainGlobals "_law_row_answer" = some (some (.ref f15)))
    (l15 : K.lookup f15 = some ⟨oc15, od15, .func (PySem.W.fnOf "_law_row_answer" "_law_row_answer" (defArgs s__law_row_answer) (defBody s__law_row_answer) (defScope s__law_row_answer) .none kV15 dc15 pm15 an15 cd15 ct15), sl15⟩) (c15 : PySem.W.codeIn K cd15 "_law_row_answer" = true) (k15 : PySem.W.keepIn K (.ref f15) = true)
    {f16 : Addr} {od16 an16 : Option Addr} {sl16 : Array (Option Value)} {oc16 kV16 dc16 pm16 cd16 ct16 : Value} (a16 : PySem.W.nsIn K mainGlobals "_law_alike" = some (some (.ref f16)))
    (l16 : K.lookup f16 = some ⟨oc16, od16, .func (PySem.W.fnOf "_law_alike" "_law_alike" (defArgs s__law_alike) (defBody s__law_alike) (defScope s__law_alike) .none kV16 dc16 pm16 an16 cd16 ct16), sl16⟩) (c16 : PySem.W.codeIn K cd16 "_law_alike" = true) (k16 : PySem.W.keepIn K (.ref f16) = true)
    {f17 : Addr} {od17 an17 : Option Addr} {sl17 : Array (Option Value)} {oc17 kV17 dc17 pm17 cd17 ct17 : Value} (a17 : PySem.W.nsIn K mainGlobals "law" = some (some (.ref f17)))
    (l17 : K.lookup f17 = some ⟨oc17, od17, .func (PySem.W.fnOf "law" "law" (defArgs s_law) (defBody s_law) (defScope s_law) .none kV17 dc17 pm17 an17 cd17 ct17), sl17⟩) (c17 : PySem.W.codeIn K cd17 "law" = true) (k17 : PySem.W.keepIn K (.ref f17) = true)
    {x0 : Str} {t0 : PySem.Tok} (n0 : PySem.W.nsIn K mainGlobals "FIGURES" = some (some (.str x0 t0))) (e0 : x0 = St [48, 49, 50, 51, 52, 53, 54, 55, 56, 57])
    {x1 : Str} {t1 : PySem.Tok} (n1 : PySem.W.nsIn K mainGlobals "GREAT" = some (some (.str x1 t1))) (e1 : x1 = St [65, 66, 67, 68, 69, 70, 71, 72, 73, 74, 75, 76, 77, 78, 79, 80, 81, 82, 83, 84, 85, 86, 87, 88, 89, 90])
    {x2 : Str} {t2 : PySem.Tok} (n2 : PySem.W.nsIn K mainGlobals "SMALL" = some (some (.str x2 t2))) (e2 : x2 = St [97, 98, 99, 100, 101, 102, 103, 104, 105, 106, 107, 108, 109, 110, 111, 112, 113, 114, 115, 116, 117, 118, 119, 120, 121, 122])
    (z0 : PySem.W.nsIn K mainGlobals "enumerate" = some none)
    (z1 : PySem.W.nsIn K mainGlobals "list" = some none)
    (z2 : PySem.W.nsIn K mainGlobals "range" = some none)
    (z3 : PySem.W.nsIn K mainGlobals "len" = some none)
    (z4 : PySem.W.nsIn K mainGlobals "abs" = some none)
    (z5 : PySem.W.nsIn K mainGlobals "int" = some none)
    (z6 : PySem.W.nsIn K mainGlobals "isinstance" = some none)
    (z7 : PySem.W.nsIn K mainGlobals "str" = some none)
    (z8 : PySem.W.nsIn K mainGlobals "max" = some none)
    (z9 : PySem.W.nsIn K mainGlobals "min" = some none)
    (z10 : PySem.W.nsIn K mainGlobals "tuple" = some none)
    : ∃ fd : FuncData, (∀ (s : Shared) (v : Value), BindsTo s fd ⟨[v], []⟩ [("_law_script", v)]) ∧ ∀ base : Heap, K.In base → base.Ns mainGlobals mg → FnOk l.prog w K mg base (L2.CX l.prog w) 12 fa fd ["_law_script"] (spP xad0 K sp_k13) := by
  have e := hfa.symm.trans (PySem.W.mg_of X G a17)
  cases e
  have F0 := fun_mk (st := s_changed) l0 c0 k0
  have b0 := F0.binds (ps := ["deed", "signs"]) fun _ _ _ _ _ _ us hl => match us, hl with | [_, _], _ => rfl
  have F1 := fun_mk (st := s_kind_of) l1 c1 k1
  have b1 := F1.binds (ps := ["sign"]) fun _ _ _ _ _ _ us hl => match us, hl with | [_], _ => rfl
  have F2 := fun_mk (st := s_standings) l2 c2 k2
  have b2 := F2.binds (ps := ["kind", "text"]) fun _ _ _ _ _ _ us hl => match us, hl with | [_, _], _ => rfl
  have F3 := fun_mk (st := s_spot_by) l3 c3 k3
  have b3 := F3.binds (ps := ["stands", "nth", "edge"]) fun _ _ _ _ _ _ us hl => match us, hl with | [_, _, _], _ => rfl
  have F4 := fun_mk (st := s_spot) l4 c4 k4
  have b4 := F4.binds (ps := ["place", "text"]) fun _ _ _ _ _ _ us hl => match us, hl with | [_, _], _ => rfl
  have F5 := fun_mk (st := s_answer_of) l5 c5 k5
  have b5 := F5.binds (ps := ["piece", "text"]) fun _ _ _ _ _ _ us hl => match us, hl with | [_, _], _ => rfl
  have F6 := fun_mk (st := s_row_answer) l6 c6 k6
  have b6 := F6.binds (ps := ["row", "text"]) fun _ _ _ _ _ _ us hl => match us, hl with | [_, _], _ => rfl
  have F7 := fun_mk (st := s__law_cell) l7 c7 k7
  have b7 := F7.binds (ps := ["_law_script", "_law_k"]) fun _ _ _ _ _ _ us hl => match us, hl with | [_, _], _ => rfl
  have F8 := fun_mk (st := s__law_text) l8 c8 k8
  have b8 := F8.binds (ps := ["_law_cell_here", "_law_most"]) fun _ _ _ _ _ _ us hl => match us, hl with | [_, _], _ => rfl
  have F9 := fun_mk (st := s__law_place) l9 c9 k9
  have b9 := F9.binds (ps := ["_law_cell_here"]) fun _ _ _ _ _ _ us hl => match us, hl with | [_], _ => rfl
  have F10 := fun_mk (st := s__law_word) l10 c10 k10
  have b10 := F10.binds (ps := ["_law_cell_here", "_law_most"]) fun _ _ _ _ _ _ us hl => match us, hl with | [_, _], _ => rfl
  have F11 := fun_mk (st := s__law_piece) l11 c11 k11
  have b11 := F11.binds (ps := ["_law_cell_here", "_law_most"]) fun _ _ _ _ _ _ us hl => match us, hl with | [_, _], _ => rfl
  have F12 := fun_mk (st := s__law_kind) l12 c12 k12
  have b12 := F12.binds (ps := ["_law_sign"]) fun _ _ _ _ _ _ us hl => match us, hl with | [_], _ => rfl
  have F13 := fun_mk (st := s__law_spot) l13 c13 k13
  have b13 := F13.binds (ps := ["_law_place_here", "_law_text_here"]) fun _ _ _ _ _ _ us hl => match us, hl with | [_, _], _ => rfl
  have F14 := fun_mk (st := s__law_piece_answer) l14 c14 k14
  have b14 := F14.binds (ps := ["_law_piece_here", "_law_text_here"]) fun _ _ _ _ _ _ us hl => match us, hl with | [_, _], _ => rfl
  have F15 := fun_mk (st := s__law_row_answer) l15 c15 k15
  have b15 := F15.binds (ps := ["_law_row", "_law_text_here"]) fun _ _ _ _ _ _ us hl => match us, hl with | [_, _], _ => rfl
  have F16 := fun_mk (st := s__law_alike) l16 c16 k16
  have b16 := F16.binds (ps := ["_law_found", "_law_due"]) fun _ _ _ _ _ _ us hl => match us, hl with | [_, _], _ => rfl
  have F17 := fun_mk (st := s_law) l17 c17 k17
  have b17 := F17.binds (ps := ["_law_script"]) fun _ _ _ _ _ _ us hl => match us, hl with | [_], _ => rfl
  refine ⟨PySem.W.fnOf "law" "law" (defArgs s_law) (defBody s_law) (defScope s_law) .none kV17 dc17 pm17 an17 cd17 ct17, fun s v => .of_eq rfl, fun base hb hn => ?_⟩
  have UG0 : Uses t_changed m_changed xad0 l.prog w K mg base 0 := {
    fn := fun n x h => by
      cases h
    cn := fun n x d h1 h2 => by
      cases h1
    bl := fun x h => by
      cases h
    xc := Xc.nil
    xr := xr_of rfl
    hot := rfl }
  have G0 := def_ok (sp := sp_changed) (base := base) F0 f_changed UG0 b_changed c_changed rfl (fun g ds hl hp => w_changed g ds hl hp)
  have UG1 : Uses t_spot_by m_spot_by xad0 l.prog w K mg base 0 := {
    fn := fun n x h => by
      cases h
    cn := fun n x d h1 h2 => by
      cases h1
    bl := fun x h => by
      simp only [t_spot_by, List.mem_cons, List.not_mem_nil, or_false] at h
      rcases h with h | h <;> subst h
      · exact PySem.W.mg_none_of X G z3
      · exact PySem.W.mg_none_of X G z4
    xc := Xc.nil
    xr := xr_of rfl
    hot := rfl }
  have G1 := def_ok (sp := sp_spot_by) (base := base) F3 f_spot_by UG1 b_spot_by c_spot_by rfl (fun g ds hl hp => w_spot_by g ds hl hp)
  have UG2 : Uses t_kind_of m_kind xad0 l.prog w K mg base 0 := {
    fn := fun n x h => by
      cases h
    cn := fun n x d h1 h2 => by
      rcases n with _ | n
      · cases h1; cases h2; exact ⟨.str x0, _, PySem.W.mg_of X G n0, ⟨_, rfl⟩, fun _ => congrArg V.str e0⟩
      rcases n with _ | n
      · cases h1; cases h2; exact ⟨.str x1, _, PySem.W.mg_of X G n1, ⟨_, rfl⟩, fun _ => congrArg V.str e1⟩
      rcases n with _ | n
      · cases h1; cases h2; exact ⟨.str x2, _, PySem.W.mg_of X G n2, ⟨_, rfl⟩, fun _ => congrArg V.str e2⟩
      cases h1
    bl := fun x h => by
      cases h
    xc := Xc.nil
    xr := xr_of rfl
    hot := rfl }
  have G2 := def_ok (sp := sp_kind) (base := base) F1 f_kind_of UG2 b_kind_of c_kind_of rfl (fun g ds hl hp => w_kind g ds hl hp)
  have UG3 : Uses t_standings m_standings xad0 l.prog w K mg base 2 := {
    fn := fun n x h => by
      rcases n with _ | n
      · cases h; exact ⟨sp_kind, 2, rfl, by decide, ⟨_, _, _, G2, PySem.W.mg_of X G a1, k1, b1⟩⟩
      cases h
    cn := fun n x d h1 h2 => by
      cases h1
    bl := fun x h => by
      simp only [t_standings, List.mem_cons, List.not_mem_nil, or_false] at h
      rcases h with h | h | h | h <;> subst h
      · exact PySem.W.mg_none_of X G z0
      · exact PySem.W.mg_none_of X G z1
      · exact PySem.W.mg_none_of X G z2
      · exact PySem.W.mg_none_of X G z3
    xc := Xc.nil
    xr := xr_of rfl
    hot := rfl }
  have G3 := def_ok (sp := sp_standings) (base := base) F2 f_standings UG3 b_standings c_standings rfl (fun g ds hl hp => w_standings g ds hl hp)
  have UG4 : Uses t_spot m_spot xad0 l.prog w K mg base 4 := {
    fn := fun n x h => by
      rcases n with _ | n
      · cases h; exact ⟨sp_spot_by, 2, rfl, by decide, ⟨_, _, _, G1, PySem.W.mg_of X G a3, k3, b3⟩⟩
      rcases n with _ | n
      · cases h; exact ⟨sp_standings, 4, rfl, by decide, ⟨_, _, _, G3, PySem.W.mg_of X G a2, k2, b2⟩⟩
      cases h
    cn := fun n x d h1 h2 => by
      cases h1
    bl := fun x h => by
      cases h
    xc := Xc.nil
    xr := xr_of rfl
    hot := rfl }
  have G4 := def_ok (sp := sp_spot) (base := base) F4 f_spot UG4 b_spot c_spot rfl (fun g ds hl hp => w_spot g ds hl hp)
  have UG5 : Uses t_answer_of m_ans xad0 l.prog w K mg base 6 := {
    fn := fun n x h => by
      rcases n with _ | n
      · cases h; exact ⟨sp_changed, 2, rfl, by decide, ⟨_, _, _, G0, PySem.W.mg_of X G a0, k0, b0⟩⟩
      rcases n with _ | n
      · cases h; exact ⟨sp_spot, 6, rfl, by decide, ⟨_, _, _, G4, PySem.W.mg_of X G a4, k4, b4⟩⟩
      cases h
    cn := fun n x d h1 h2 => by
      cases h1
    bl := fun x h => by
      cases h
    xc := Xc.nil
    xr := xr_of rfl
    hot := rfl }
  have G5 := def_ok (sp := sp_ans) (base := base) F5 f_answer_of UG5 b_answer_of c_answer_of rfl (fun g ds hl hp => w_ans g ds hl hp)
  have UG6 : Uses t__law_alike m_alikeT xad0 l.prog w K mg base 0 := {
    fn := fun n x h => by
      cases h
    cn := fun n x d h1 h2 => by
      cases h1
    bl := fun x h => by
      simp only [t__law_alike, List.mem_cons, List.not_mem_nil, or_false] at h
      rcases h with h | h <;> subst h
      · exact PySem.W.mg_none_of X G z6
      · exact PySem.W.mg_none_of X G z7
    xc := Xc.nil
    xr := xr_of rfl
    hot := rfl }
  have G6 := def_ok (sp := sp_alikeT) (base := base) F16 f__law_alike UG6 b__law_alike__2 c__law_alike rfl (fun g ds hl hp => w_alikeT g ds hl hp)
  have UG7 : Uses t__law_kind m_lkind xad0 l.prog w K mg base 0 := {
    fn := fun n x h => by
      cases h
    cn := fun n x d h1 h2 => by
      cases h1
    bl := fun x h => by
      cases h
    xc := Xc.nil
    xr := xr_of rfl
    hot := rfl }
  have G7 := def_ok (sp := sp_lkind) (base := base) F12 f__law_kind UG7 b__law_kind c__law_kind rfl (fun g ds hl hp => w_lkind g ds hl hp)
  have UG8 : Uses t__law_spot m_lspot xad0 l.prog w K mg base 2 := {
    fn := fun n x h => by
      rcases n with _ | n
      · cases h; exact ⟨sp_lkind, 2, rfl, by decide, ⟨_, _, _, G7, PySem.W.mg_of X G a12, k12, b12⟩⟩
      cases h
    cn := fun n x d h1 h2 => by
      cases h1
    bl := fun x h => by
      simp only [t__law_spot, List.mem_cons, List.not_mem_nil, or_false] at h
      rcases h with h | h | h | h <;> subst h
      · exact PySem.W.mg_none_of X G z5
      · exact PySem.W.mg_none_of X G z3
      · exact PySem.W.mg_none_of X G z4
      · exact PySem.W.mg_none_of X G z2
    xc := Xc.nil
    xr := xr_of rfl
    hot := rfl }
  have G8 := def_ok (sp := sp_lspot) (base := base) F13 f__law_spot UG8 b__law_spot c__law_spot rfl (fun g ds hl hp => w_lspot g ds hl hp)
  have UG9 : Uses t__law_piece_answer m_lans xad0 l.prog w K mg base 4 := {
    fn := fun n x h => by
      rcases n with _ | n
      · cases h; exact ⟨sp_lspot, 4, rfl, by decide, ⟨_, _, _, G8, PySem.W.mg_of X G a13, k13, b13⟩⟩
      cases h
    cn := fun n x d h1 h2 => by
      cases h1
    bl := fun x h => by
      cases h
    xc := Xc.nil
    xr := xr_of rfl
    hot := rfl }
  have G9 := def_ok (sp := sp_lans) (base := base) F14 f__law_piece_answer UG9 b__law_piece_answer c__law_piece_answer rfl (fun g ds hl hp => w_lans g ds hl hp)
  have UG10 : Uses t__law_row_answer m_lrowAns xad0 l.prog w K mg base 6 := {
    fn := fun n x h => by
      rcases n with _ | n
      · cases h; exact ⟨sp_lans, 6, rfl, by decide, ⟨_, _, _, G9, PySem.W.mg_of X G a14, k14, b14⟩⟩
      cases h
    cn := fun n x d h1 h2 => by
      cases h1
    bl := fun x h => by
      cases h
    xc := Xc.nil
    xr := xr_of rfl
    hot := rfl }
  have G10 := def_ok (sp := sp_lrowAns) (base := base) F15 f__law_row_answer UG10 b__law_row_answer c__law_row_answer rfl (fun g ds hl hp => w_lrowAns g ds hl hp)
  have UG11 : Uses t_row_answer m_rowAns xad0 l.prog w K mg base 8 := {
    fn := fun n x h => by
      rcases n with _ | n
      · cases h; exact ⟨sp_ans, 8, rfl, by decide, ⟨_, _, _, G5, PySem.W.mg_of X G a5, k5, b5⟩⟩
      cases h
    cn := fun n x d h1 h2 => by
      cases h1
    bl := fun x h => by
      cases h
    xc := Xc.nil
    xr := xr_of rfl
    hot := rfl }
  have G11 := def_ok (sp := sp_rowAns) (base := base) F6 f_row_answer UG11 b_row_answer c_row_answer rfl (fun g ds hl hp => w_rowAns g ds hl hp)
  have UG12 : Uses t__law_cell m_cell xad0 l.prog w K mg base 0 := {
    fn := fun n x h => by
      cases h
    cn := fun n x d h1 h2 => by
      cases h1
    bl := fun x h => by
      simp only [t__law_cell, List.mem_cons, List.not_mem_nil, or_false] at h
      rcases h with h <;> subst h
      · exact PySem.W.mg_none_of X G z3
    xc := Xc.nil
    xr := xr_of rfl
    hot := rfl }
  have G12 := def_ok (sp := sp_cell) (base := base) F7 f__law_cell UG12 b__law_cell c__law_cell rfl (fun g ds hl hp => w_cell g ds hl hp)
  have UG13 : Uses t__law_place m_place xad0 l.prog w K mg base 0 := {
    fn := fun n x h => by
      cases h
    cn := fun n x d h1 h2 => by
      cases h1
    bl := fun x h => by
      cases h
    xc := Xc.nil
    xr := xr_of rfl
    hot := rfl }
  have G13 := def_ok (sp := sp_place) (base := base) F9 f__law_place UG13 b__law_place c__law_place rfl (fun g ds hl hp => w_place g ds hl hp)
  have UG14 : Uses t__law_text m_text2 xad0 l.prog w K mg base 0 := {
    fn := fun n x h => by
      cases h
    cn := fun n x d h1 h2 => by
      cases h1
    bl := fun x h => by
      simp only [t__law_text, List.mem_cons, List.not_mem_nil, or_false] at h
      rcases h with h | h <;> subst h
      · exact PySem.W.mg_none_of X G z2
      · exact PySem.W.mg_none_of X G z3
    xc := Xc.nil
    xr := xr_of rfl
    hot := rfl }
  have G14 := def_ok (sp := sp_text2) (base := base) F8 f__law_text UG14 b__law_text__2 c__law_text rfl (fun g ds hl hp => w_text2 g ds hl hp)
  have UG15 : Uses t__law_word m_word xad0 l.prog w K mg base 2 := {
    fn := fun n x h => by
      rcases n with _ | n
      · cases h; exact ⟨sp_text2, 2, rfl, by decide, ⟨_, _, _, G14, PySem.W.mg_of X G a8, k8, b8⟩⟩
      cases h
    cn := fun n x d h1 h2 => by
      cases h1
    bl := fun x h => by
      cases h
    xc := Xc.nil
    xr := xr_of rfl
    hot := rfl }
  have G15 := def_ok (sp := sp_word) (base := base) F10 f__law_word UG15 b__law_word c__law_word rfl (fun g ds hl hp => w_word g ds hl hp)
  have UG16 : Uses t__law_piece m_piece xad0 l.prog w K mg base 4 := {
    fn := fun n x h => by
      rcases n with _ | n
      · cases h; exact ⟨sp_place, 2, rfl, by decide, ⟨_, _, _, G13, PySem.W.mg_of X G a9, k9, b9⟩⟩
      rcases n with _ | n
      · cases h; exact ⟨sp_word, 4, rfl, by decide, ⟨_, _, _, G15, PySem.W.mg_of X G a10, k10, b10⟩⟩
      cases h
    cn := fun n x d h1 h2 => by
      cases h1
    bl := fun x h => by
      cases h
    xc := Xc.nil
    xr := xr_of rfl
    hot := rfl }
  have G16 := def_ok (sp := sp_piece) (base := base) F11 f__law_piece UG16 b__law_piece c__law_piece rfl (fun g ds hl hp => w_piece g ds hl hp)
  have UG17 : Uses t_law m_k13 xad0 l.prog w K mg base 10 := {
    fn := fun n x h => by
      rcases n with _ | n
      · cases h; exact ⟨sp_ans, 8, rfl, by decide, ⟨_, _, _, G5, PySem.W.mg_of X G a5, k5, b5⟩⟩
      rcases n with _ | n
      · cases h; exact ⟨sp_alikeT, 2, rfl, by decide, ⟨_, _, _, G6, PySem.W.mg_of X G a16, k16, b16⟩⟩
      rcases n with _ | n
      · cases h; exact ⟨sp_lrowAns, 8, rfl, by decide, ⟨_, _, _, G10, PySem.W.mg_of X G a15, k15, b15⟩⟩
      rcases n with _ | n
      · cases h; exact ⟨sp_rowAns, 10, rfl, by decide, ⟨_, _, _, G11, PySem.W.mg_of X G a6, k6, b6⟩⟩
      rcases n with _ | n
      · cases h; exact ⟨sp_cell, 2, rfl, by decide, ⟨_, _, _, G12, PySem.W.mg_of X G a7, k7, b7⟩⟩
      rcases n with _ | n
      · cases h; exact ⟨sp_lans, 6, rfl, by decide, ⟨_, _, _, G9, PySem.W.mg_of X G a14, k14, b14⟩⟩
      rcases n with _ | n
      · cases h; exact ⟨sp_piece, 6, rfl, by decide, ⟨_, _, _, G16, PySem.W.mg_of X G a11, k11, b11⟩⟩
      rcases n with _ | n
      · cases h; exact ⟨sp_text2, 2, rfl, by decide, ⟨_, _, _, G14, PySem.W.mg_of X G a8, k8, b8⟩⟩
      cases h
    cn := fun n x d h1 h2 => by
      cases h1
    bl := fun x h => by
      simp only [t_law, List.mem_cons, List.not_mem_nil, or_false] at h
      rcases h with h | h | h | h | h <;> subst h
      · exact PySem.W.mg_none_of X G z2
      · exact PySem.W.mg_none_of X G z8
      · exact PySem.W.mg_none_of X G z9
      · exact PySem.W.mg_none_of X G z3
      · exact PySem.W.mg_none_of X G z10
    xc := Xc.nil
    xr := xr_of rfl
    hot := rfl }
  have G17 := def_ok (sp := sp_k13) (base := base) F17 f_law UG17 b_law__2 c_law rfl (fun g ds hl hp => w_k13 g ds hl hp)
  exact G17
theorem int_rep {K : PySem.W.Frag} {H : Hp} : ∀ ns : List Int, RepL K H (ns.map .int) (ns.map V.int)
  | [] => rfl
  | n :: r => ⟨_, _, rfl, rfl, int_rep r⟩
theorem walk {l : PySem.W.OpenLaw} {q : Program} {loose : List Str} {XP : (Str → Option Value) → Heap → Prop} {YP : World → Heap → Prop} {d : DefRec} {K : Params → PySem.W.Frag} (hn : l.most = some 63) (hdf : d.params.defaults = [])
    (hY : ∀ (w : World) (h : Heap), YP w h → (K w.params).In h)
    (F : ∀ (w : World) (mg : Str → Option Value) (fa : Addr) (h : Heap), (K w.params).In h → h.Ns mainGlobals mg → mg d.name = some (.ref fa) →
      ∃ fd : FuncData, (∀ (s : Shared) (u : Value), BindsTo s fd ⟨[u], []⟩ [("_law_script", u)]) ∧ ∀ base : Heap, (K w.params).In base → base.Ns mainGlobals mg → FnOk l.prog w (K w.params) mg base (L2.CX l.prog w) 12 fa fd ["_law_script"] (spP xad0 (K w.params) sp_k13)) :
    PySem.W.WalkO q loose XP YP l.row.toRowW d [] (fun f vs => PySem.call f vs) :=
  L2.walk_ofB (n := 63) (k := 12) (x := "_law_script") (CX := fun w => L2.CX l.prog w) (sp := fun w => spP xad0 (K w.params) sp_k13) hn (by decide) hdf ⟨rfl, by decide, by decide⟩ hY F
    (fun w H a ns hl hb _ hS => ⟨rfl, H, [.lst (ns.map .int)], ns, Ex.refl H, ⟨_, _, rfl, ⟨a, _, rfl, hS, int_rep ns⟩, rfl⟩, ⟨rfl, hl, hb⟩, fun d v F1 H1 _ r e => by cases e; exact r, fun _ _ _ _ z => z.elim⟩)
    fun w H s e s1 z => by obtain ⟨_, _, _, _, _, _, _, _, _, _, _, _, z⟩ := z; exact z
end
end K13
open PySem PySem.W PyProof.Rows in
set_option maxRecDepth 100000 in
set_option maxHeartbeats 0 in
theorem PySem.Challenge.cw_byexample_k13_answers_of_pieces_holds : PySem.Challenge.rw_byexample_k13_answers_of_pieces.Holds := by
  w_on; o_law; k_head; (case hw => w_witness2)
  k_fill
  refine K13.walk (l := PySem.Challenge.rw_byexample_k13_answers_of_pieces) rfl rfl (fun w h Y => PySem.W.kIn_of Y) ?F
  case F =>
    intro w mg fa h KX G hmg
    refine' K13.all_mk KX G hmg ?a0 ?l0 ?c0 ?k0 ?a1 ?l1 ?c1 ?k1 ?a2 ?l2 ?c2 ?k2 ?a3 ?l3 ?c3 ?k3 ?a4 ?l4 ?c4 ?k4 ?a5 ?l5 ?c5 ?k5 ?a6 ?l6 ?c6 ?k6 ?a7 ?l7 ?c7 ?k7 ?a8 ?l8 ?c8 ?k8 ?a9 ?l9 ?c9 ?k9 ?a10 ?l10 ?c10 ?k10 ?a11 ?l11 ?c11 ?k11 ?a12 ?l12 ?c12 ?k12 ?a13 ?l13 ?c13 ?k13 ?a14 ?l14 ?c14 ?k14 ?a15 ?l15 ?c15 ?k15 ?a16 ?l16 ?c16 ?k16 ?a17 ?l17 ?c17 ?k17 ?n0 ?e0 ?n1 ?e1 ?n2 ?e2 ?z0 ?z1 ?z2 ?z3 ?z4 ?z5 ?z6 ?z7 ?z8 ?z9 ?z10
    (case a0 => k_is)
    (case l0 => k_is)
    (case c0 => k_is)
    (case k0 => k_is)
    (case a1 => k_is)
    (case l1 => k_is)
    (case c1 => k_is)
    (case k1 => k_is)
    (case a2 => k_is)
    (case l2 => k_is)
    (case c2 => k_is)
    (case k2 => k_is)
    (case a3 => k_is)
    (case l3 => k_is)
    (case c3 => k_is)
    (case k3 => k_is)
    (case a4 => k_is)
    (case l4 => k_is)
    (case c4 => k_is)
    (case k4 => k_is)
    (case a5 => k_is)
    (case l5 => k_is)
    (case c5 => k_is)
    (case k5 => k_is)
    (case a6 => k_is)
    (case l6 => k_is)
    (case c6 => k_is)
    (case k6 => k_is)
    (case a7 => k_is)
    (case l7 => k_is)
    (case c7 => k_is)
    (case k7 => k_is)
    (case a8 => k_is)
    (case l8 => k_is)
    (case c8 => k_is)
    (case k8 => k_is)
    (case a9 => k_is)
    (case l9 => k_is)
    (case c9 => k_is)
    (case k9 => k_is)
    (case a10 => k_is)
    (case l10 => k_is)
    (case c10 => k_is)
    (case k10 => k_is)
    (case a11 => k_is)
    (case l11 => k_is)
    (case c11 => k_is)
    (case k11 => k_is)
    (case a12 => k_is)
    (case l12 => k_is)
    (case c12 => k_is)
    (case k12 => k_is)
    (case a13 => k_is)
    (case l13 => k_is)
    (case c13 => k_is)
    (case k13 => k_is)
    (case a14 => k_is)
    (case l14 => k_is)
    (case c14 => k_is)
    (case k14 => k_is)
    (case a15 => k_is)
    (case l15 => k_is)
    (case c15 => k_is)
    (case k15 => k_is)
    (case a16 => k_is)
    (case l16 => k_is)
    (case c16 => k_is)
    (case k16 => k_is)
    (case a17 => k_is)
    (case l17 => k_is)
    (case c17 => k_is)
    (case k17 => k_is)
    (case n0 => k_is)
    (case e0 => decide +kernel)
    (case n1 => k_is)
    (case e1 => decide +kernel)
    (case n2 => k_is)
    (case e2 => decide +kernel)
    (case z0 => k_is)
    (case z1 => k_is)
    (case z2 => k_is)
    (case z3 => k_is)
    (case z4 => k_is)
    (case z5 => k_is)
    (case z6 => k_is)
    (case z7 => k_is)
    (case z8 => k_is)
    (case z9 => k_is)
    (case z10 => k_is)
