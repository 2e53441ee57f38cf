import PyProof.Rows.All
import Wide.All
import OpenK.AllK
import Wide.FinOn
import HandS.ForMost
import HandS.Defaults
import HandS.IsInst
import HandS.Wide
import HandS.TupAny
import HandS.TupMul
import HandS.Walk
import HandS.Zip
import HandS.EndBits
import HandS.Style
import KE.GoesEnum
import KE.GoesMore
import HandS.NoneIn
import PySem.Challenge.RW_turnboard_k01_fraction_arithmetic
-- TB0
section
set_option Elab.async false
set_option linter.all false
set_option maxRecDepth 100000
set_option maxHeartbeats 2000000
/-! TB0: the data level over the hand layer. A value is data (PyData, standing in a part of the heap that never changes) or an object that the code at hand owns and may change. -/
namespace TB
open PySem L2

inductive W where
  | dat (d : PyData)
  | own (p : Addr)
inductive MO where
  | lst (ws : List W)
  | dct (kws : List (Key × W))
abbrev OH := List (Addr × MO)
abbrev Gm := List (Option W)

def kD : Key → PyData
  | .inl i => .int i
  | .inr x => .str x

mutual
inductive Rp (K : PySem.W.Frag) (H : Hp) : V → PyData → Prop
  | non : Rp K H .non .none
  | bl (b : Bool) : Rp K H (.bl b) (.bool b)
  | int (i : Int) : Rp K H (.int i) (.int i)
  | str (x : Str) : Rp K H (.str x) (.str x)
  | lst {a : Addr} {xs : List V} {ds : List PyData} (h : SqL K H a xs) (r : RpAll K H xs ds) : Rp K H (.ref a) (.list ds)
  | tup {a : Addr} {xs : List V} {ds : List PyData} (h : SqT K H a xs) (r : RpAll K H xs ds) : Rp K H (.ref a) (.tuple ds)
  | dct {a : Addr} {kvs : List (Key × V)} {ds : List (PyData × PyData)} (h : H a = some (.dK kvs)) (r : RpKV K H kvs ds) : Rp K H (.ref a) (.dict ds)
inductive RpAll (K : PySem.W.Frag) (H : Hp) : List V → List PyData → Prop
  | nil : RpAll K H [] []
  | cons {v : V} {vs : List V} {d : PyData} {ds : List PyData} (h : Rp K H v d) (r : RpAll K H vs ds) : RpAll K H (v :: vs) (d :: ds)
inductive RpKV (K : PySem.W.Frag) (H : Hp) : List (Key × V) → List (PyData × PyData) → Prop
  | nil : RpKV K H [] []
  | cons {k : Key} {v : V} {kvs : List (Key × V)} {d : PyData} {ds : List (PyData × PyData)} (h : Rp K H v d) (r : RpKV K H kvs ds) : RpKV K H ((k, v) :: kvs) ((kD k, d) :: ds)
end

section
variable {K : PySem.W.Frag} {H H' : Hp}
theorem same_rd {a : Addr} {u : HO} (s : Same H H') (h : Rd H a u) : Rd H' a u := by
  rcases h with h | ⟨o, h⟩
  · exact Or.inl (s a _ h)
  · exact Or.inr ⟨o, s a _ h⟩
theorem same_l {a : Addr} {xs : List V} (s : Same H H') (h : SqL K H a xs) : SqL K H' a xs := by
  rcases h with h | h
  · exact Or.inl (same_rd s h)
  · exact Or.inr h
theorem same_t {a : Addr} {xs : List V} (s : Same H H') (h : SqT K H a xs) : SqT K H' a xs := by
  rcases h with h | h
  · exact Or.inl (same_rd s h)
  · exact Or.inr h
mutual
theorem Rp.mono (s : Same H H') : ∀ {d : PyData} {v : V}, Rp K H v d → Rp K H' v d
  | .none, _, h => by cases h; exact .non
  | .bool b, _, h => by cases h; exact .bl b
  | .int i, _, h => by cases h; exact .int i
  | .str x, _, h => by cases h; exact .str x
  | .list ds, _, h => by
    cases h with
    | lst h r => exact .lst (same_l s h) (RpAll.mono s r)
  | .tuple ds, _, h => by
    cases h with
    | tup h r => exact .tup (same_t s h) (RpAll.mono s r)
  | .dict ds, _, h => by
    cases h with
    | dct h r => exact .dct (s _ _ h) (RpKV.mono s r)
theorem RpAll.mono (s : Same H H') : ∀ {ds : List PyData} {vs : List V}, RpAll K H vs ds → RpAll K H' vs ds
  | [], _, h => by cases h; exact .nil
  | d :: ds, _, h => by
    cases h with
    | cons h r => exact .cons (Rp.mono s h) (RpAll.mono s r)
theorem RpKV.mono (s : Same H H') : ∀ {ds : List (PyData × PyData)} {kvs : List (Key × V)}, RpKV K H kvs ds → RpKV K H' kvs ds
  | [], _, h => by cases h; exact .nil
  | (k, d) :: ds, _, h => by
    cases h with
    | cons h r => exact .cons (Rp.mono s h) (RpKV.mono s r)
end
theorem RpAll.length {vs : List V} {ds : List PyData} (h : RpAll K H vs ds) : vs.length = ds.length := by
  induction ds generalizing vs with
  | nil => cases h; rfl
  | cons d ds ih => cases h with | cons h r => simp [ih r]
theorem RpAll.get {vs : List V} {ds : List PyData} {i : Nat} {d : PyData} (h : RpAll K H vs ds) (e : ds[i]? = some d) : ∃ v, vs[i]? = some v ∧ Rp K H v d := by
  induction ds generalizing vs i with
  | nil => simp at e
  | cons d0 ds ih =>
    cases h with
    | cons h r =>
      cases i with
      | zero => simp at e; subst e; exact ⟨_, rfl, h⟩
      | succ i => simpa using ih r (by simpa using e)
theorem RpAll.getV {vs : List V} {ds : List PyData} {i : Nat} {v : V} (h : RpAll K H vs ds) (e : vs[i]? = some v) : ∃ d, ds[i]? = some d ∧ Rp K H v d := by
  induction ds generalizing vs i with
  | nil => cases h; simp at e
  | cons d0 ds ih =>
    cases h with
    | cons h r =>
      cases i with
      | zero => simp at e; subst e; exact ⟨_, rfl, h⟩
      | succ i => simpa using ih r (by simpa using e)
theorem RpAll.append {vs us : List V} {ds es : List PyData} (h : RpAll K H vs ds) (h' : RpAll K H us es) : RpAll K H (vs ++ us) (ds ++ es) := by
  induction ds generalizing vs with
  | nil => cases h; exact h'
  | cons d ds ih => cases h with | cons h r => exact .cons h (ih r)
theorem RpAll.take {vs : List V} {ds : List PyData} (n : Nat) (h : RpAll K H vs ds) : RpAll K H (vs.take n) (ds.take n) := by
  induction ds generalizing vs n with
  | nil => cases h; simp; exact .nil
  | cons d ds ih =>
    cases h with
    | cons h r =>
      cases n with
      | zero => exact .nil
      | succ n => exact .cons h (ih n r)
theorem RpAll.drop {vs : List V} {ds : List PyData} (n : Nat) (h : RpAll K H vs ds) : RpAll K H (vs.drop n) (ds.drop n) := by
  induction ds generalizing vs n with
  | nil => cases h; simp; exact .nil
  | cons d ds ih =>
    cases h with
    | cons h r =>
      cases n with
      | zero => exact .cons h r
      | succ n => exact ih n r
theorem RpAll.reverse {vs : List V} {ds : List PyData} (h : RpAll K H vs ds) : RpAll K H vs.reverse ds.reverse := by
  induction ds generalizing vs with
  | nil => cases h; exact .nil
  | cons d ds ih => cases h with | cons h r => simpa using (ih r).append (.cons h .nil)
theorem RpAll.rep {vs : List V} {ds : List PyData} (h : RpAll K H vs ds) : ∀ n : Nat, RpAll K H (List.replicate n vs).flatten (List.replicate n ds).flatten
  | 0 => .nil
  | n + 1 => by simpa [List.replicate_succ] using h.append (h.rep n)

/-! ### the state -/
def RepW (K : PySem.W.Frag) (Z : Hp) : W → V → Prop
  | .dat d, v => Rp K Z v d
  | .own p, v => v = .ref p
def RepMO (K : PySem.W.Frag) (Z : Hp) : MO → HO → Prop
  | .lst ws, .lst vs => Paired (RepW K Z) ws vs
  | .dct kws, .dK kvs => Paired (fun (p : Key × W) (q : Key × V) => p.1 = q.1 ∧ RepW K Z p.2 q.2) kws kvs
  | _, _ => False
theorem RepW.mono {Z Z' : Hp} {w : W} {v : V} (s : Same Z Z') (h : RepW K Z w v) : RepW K Z' w v := by
  cases w with
  | dat d => exact Rp.mono s h
  | own p => exact h
theorem RepWs.mono {Z Z' : Hp} {ws : List W} {vs : List V} (s : Same Z Z') (h : Paired (RepW K Z) ws vs) : Paired (RepW K Z') ws vs := Paired.mapP h fun _ _ r => RepW.mono s r
theorem RepMO.mono {Z Z' : Hp} {mo : MO} {ho : HO} (s : Same Z Z') (h : RepMO K Z mo ho) : RepMO K Z' mo ho := by
  cases mo with
  | lst ws =>
    cases ho with
    | lst vs => exact RepWs.mono s h
    | _ => exact h.elim
  | dct kws =>
    cases ho with
    | dK kvs => exact Paired.mapP (show Paired _ _ _ from h) fun _ _ r => ⟨r.1, RepW.mono s r.2⟩
    | _ => exact h.elim

/-- F: what must stay; G: which of F's addresses the data may lean on; Z: where the data stand; O: what is owned -/
structure HFit (K : PySem.W.Frag) (F : Hp) (G : Addr → Prop) (Z : Hp) (O : OH) (H : Hp) : Prop where
  ex : Same Z H
  fr : Same F H
  ow : ∀ p mo, (p, mo) ∈ O → Z p = none ∧ F p = none ∧ ∃ ho, H p = some ho ∧ RepMO K Z mo ho
  nd : (O.map (·.1)).Nodup
  zc : ∀ a o, Z a = some o → F a = none ∨ G a
def SFit (K : PySem.W.Frag) (Z : Hp) (Γ : Gm) (σ : L2.St) : Prop :=
  Paired (fun (w : Option W) (v : Option V) => ∀ x, w = some x → ∃ y, v = some y ∧ RepW K Z x y) Γ σ
theorem SFit.mono {Z Z' : Hp} {Γ : Gm} {σ : L2.St} (s : Same Z Z') (h : SFit K Z Γ σ) : SFit K Z' Γ σ :=
  Paired.mapP h fun _ _ r x e => let ⟨y, e1, r1⟩ := r x e; ⟨y, e1, RepW.mono s r1⟩
theorem paired_get {α β : Type} {R : α → β → Prop} : ∀ {l : List α} {m : List β} {i : Nat} {a : α}, Paired R l m → l[i]? = some a → ∃ b, m[i]? = some b ∧ R a b
  | _, _, _, _, .nil, e => by simp at e
  | _, _, 0, _, .cons r _, e => by simp at e; subst e; exact ⟨_, rfl, r⟩
  | _, _, i + 1, a, .cons _ t, e => by
    obtain ⟨b, h1, h2⟩ := paired_get (i := i) (a := a) t (by simpa using e)
    exact ⟨b, by simpa using h1, h2⟩
theorem paired_getR {α β : Type} {R : α → β → Prop} : ∀ {l : List α} {m : List β} {i : Nat} {b : β}, Paired R l m → m[i]? = some b → ∃ a, l[i]? = some a ∧ R a b
  | _, _, _, _, .nil, e => by simp at e
  | _, _, 0, _, .cons r _, e => by simp at e; subst e; exact ⟨_, rfl, r⟩
  | _, _, i + 1, b, .cons _ t, e => by
    obtain ⟨a, h1, h2⟩ := paired_getR (i := i) (b := b) t (by simpa using e)
    exact ⟨a, by simpa using h1, h2⟩
theorem paired_set {α β : Type} {R : α → β → Prop} {a : α} {b : β} (r : R a b) : ∀ {l : List α} {m : List β} (i : Nat), Paired R l m → Paired R (l.set i a) (m.set i b)
  | _, _, _, .nil => .nil
  | _, _, 0, .cons _ t => .cons r t
  | _, _, i + 1, .cons q t => .cons q (paired_set r i t)
theorem paired_append {α β : Type} {R : α → β → Prop} : ∀ {l l' : List α} {m m' : List β}, Paired R l m → Paired R l' m' → Paired R (l ++ l') (m ++ m')
  | _, _, _, _, .nil, s => s
  | _, _, _, _, .cons r t, s => .cons r (paired_append t s)
theorem SFit.get {Z : Hp} {Γ : Gm} {σ : L2.St} {i : Nat} {w : W} (h : SFit K Z Γ σ) (e : Γ[i]? = some (some w)) : ∃ v, σ[i]? = some (some v) ∧ RepW K Z w v := by
  obtain ⟨b, h1, h2⟩ := paired_get h e
  obtain ⟨y, rfl, r⟩ := h2 w rfl
  exact ⟨y, h1, r⟩
theorem SFit.set {Z : Hp} {Γ : Gm} {σ : L2.St} {w : W} {v : V} (i : Nat) (h : SFit K Z Γ σ) (r : RepW K Z w v) : SFit K Z (Γ.set i (some w)) (σ.set i (some v)) :=
  paired_set (fun x e => by cases e; exact ⟨v, rfl, r⟩) i h
theorem SFit.wipe {Z : Hp} {Γ : Gm} {σ : L2.St} (i : Nat) (h : SFit K Z Γ σ) (x : Option V) : SFit K Z (Γ.set i none) (σ.set i x) :=
  paired_set (fun x e => by cases e) i h

/-- an object that is new -/
theorem HFit.new {F : Hp} {G : Addr → Prop} {Z : Hp} {O : OH} {p : Addr} {u : HO} (h : HFit K F G Z O H) (n : H p = none) : HFit K F G (upd Z p u) O (upd H p u) := by
  have nz : Z p = none := h.ex.free n
  have nf : F p = none := h.fr.free n
  refine ⟨fun b o e => ?_, fun b o e => ?_, fun q mo hq => ?_, h.nd, fun a o e => ?_⟩
  · by_cases hb : b = p
    · subst hb; rw [upd_same] at e ⊢; exact e
    · rw [upd_ne hb] at e ⊢; exact h.ex b o e
  · rw [upd_ne (fun z => by rw [z, nf] at e; cases e)]; exact h.fr b o e
  · obtain ⟨a, b, ho, c, d⟩ := h.ow q mo hq
    have hne : q ≠ p := ne_of_none c n
    exact ⟨by rw [upd_ne hne]; exact a, b, ho, by rw [upd_ne hne]; exact c, RepMO.mono (fun x o e => by rw [upd_ne (ne_of_none e nz)]; exact e) d⟩
  · by_cases hb : a = p
    · subst hb; exact Or.inl nf
    · rw [upd_ne hb] at e; exact h.zc a o e
theorem same_new {Z : Hp} {p : Addr} {u : HO} (n : Z p = none) : Same Z (upd Z p u) := fun x o e => by rw [upd_ne (ne_of_none e n)]; exact e
/-- .. that is owned -/
theorem HFit.newO {F : Hp} {G : Addr → Prop} {Z : Hp} {O : OH} {p : Addr} {u : HO} {mo : MO} (h : HFit K F G Z O H) (n : H p = none) (r : RepMO K Z mo u) : HFit K F G Z ((p, mo) :: O) (upd H p u) := by
  have nz : Z p = none := h.ex.free n
  have nf : F p = none := h.fr.free n
  refine ⟨fun b o e => ?_, fun b o e => ?_, fun q m hq => ?_, ?_, h.zc⟩
  · rw [upd_ne (ne_of_none e nz)]; exact h.ex b o e
  · rw [upd_ne (ne_of_none e nf)]; exact h.fr b o e
  · rcases List.mem_cons.mp hq with e | hq
    · cases e; exact ⟨nz, nf, u, upd_same, r⟩
    · obtain ⟨a, b, ho, c, d⟩ := h.ow q m hq
      exact ⟨a, b, ho, by rw [upd_ne (ne_of_none c n)]; exact c, d⟩
  · show ((p, mo).1 :: O.map (·.1)).Nodup
    refine List.nodup_cons.mpr ⟨fun hm => ?_, h.nd⟩
    obtain ⟨⟨q, m⟩, h1, h2⟩ := List.mem_map.mp hm
    obtain ⟨_, _, ho, c, _⟩ := h.ow q m h1
    have h2 : q = p := h2
    rw [h2, n] at c; cases c
theorem nodup_map_at {O : OH} (nd : (O.map (·.1)).Nodup) {k : Nat} {p : Addr} {mo m : MO} (e : O[k]? = some (p, mo)) (h : (p, m) ∈ O) : m = mo := by
  induction O generalizing k with
  | nil => simp at e
  | cons q O ih =>
    rw [List.map_cons, List.nodup_cons] at nd
    cases k with
    | zero =>
      simp at e
      subst e
      rcases List.mem_cons.mp h with e | h
      · cases e; rfl
      · exact absurd (List.mem_map.mpr ⟨(p, m), h, rfl⟩) nd.1
    | succ k =>
      rcases List.mem_cons.mp h with e' | h
      · subst e'
        have := List.mem_of_getElem? (show O[k]? = some (p, mo) by simpa using e)
        exact absurd (List.mem_map.mpr ⟨(p, mo), this, rfl⟩) nd.1
      · exact ih nd.2 (k := k) (by simpa using e) h
/-- an owned object is changed -/
theorem HFit.write {F : Hp} {G : Addr → Prop} {Z : Hp} {O : OH} {k : Nat} {p : Addr} {u : HO} {mo mo' : MO} (h : HFit K F G Z O H) (e : O[k]? = some (p, mo)) (r : RepMO K Z mo' u) : HFit K F G Z (O.set k (p, mo')) (upd H p u) := by
  have hm := List.mem_of_getElem? e
  obtain ⟨nz, nf, ho, hp, _⟩ := h.ow p mo hm
  have hk : k < O.length := (List.getElem?_eq_some_iff.mp e).1
  have emap : (O.set k (p, mo')).map (·.1) = O.map (·.1) := by
    rw [List.map_set]
    have : (O.map (·.1))[k]? = some p := by rw [List.getElem?_map, e]; rfl
    apply List.ext_getElem?
    intro i
    rw [List.getElem?_set]
    split
    · rename_i hki; subst hki
      simp [hk]
      have := (List.getElem?_eq_some_iff.mp e).2
      rw [this]
    · rfl
  refine ⟨fun b o e => ?_, fun b o e => ?_, fun q m hq => ?_, by rw [emap]; exact h.nd, h.zc⟩
  · rw [upd_ne (ne_of_none e nz)]; exact h.ex b o e
  · rw [upd_ne (ne_of_none e nf)]; exact h.fr b o e
  · obtain ⟨i, hi⟩ := List.mem_iff_getElem?.mp hq
    rw [List.getElem?_set] at hi
    by_cases hki : k = i
    · rw [if_pos hki, if_pos hk] at hi
      cases hi
      exact ⟨nz, nf, u, upd_same, r⟩
    · rw [if_neg hki] at hi
      obtain ⟨a, b, hq2, c, d⟩ := h.ow q m (List.mem_of_getElem? hi)
      have hne : q ≠ p := fun z => by
        have e1 : (O.map (·.1))[i]? = some q := by rw [List.getElem?_map, hi]; rfl
        have e2 : (O.map (·.1))[k]? = some p := by rw [List.getElem?_map, e]; rfl
        rw [z] at e1
        obtain ⟨l1, g1⟩ := List.getElem?_eq_some_iff.mp e1
        obtain ⟨l2, g2⟩ := List.getElem?_eq_some_iff.mp e2
        exact hki ((List.getElem_inj h.nd).mp (g2.trans g1.symm))
      exact ⟨a, b, hq2, by rw [upd_ne hne]; exact c, d⟩
end
end TB

end
-- TB1
section
set_option Elab.async false
set_option linter.all false
set_option maxRecDepth 100000
set_option maxHeartbeats 2000000
/-! TB1: what expressions are worth at the data level. -/
namespace TB
open PySem L2
section
variable {K : PySem.W.Frag} {F : Hp} {G : Addr → Prop} {Z H : Hp} {O : OH}

/-- what is owned besides may be set aside: it is then what must stay -/
def frameF (O : OH) (F H : Hp) : Hp := fun a => if a ∈ O.map (·.1) then H a else F a
theorem HFit.aside {A : OH} (h : HFit K F G Z (A ++ O) H) : HFit K (frameF A F H) (fun a => G a ∧ a ∉ A.map (·.1)) Z O H := by
  have nd := h.nd
  rw [List.map_append] at nd
  have inA : ∀ a, a ∈ A.map (·.1) → Z a = none := fun a ha => by
    obtain ⟨⟨q, m⟩, h1, h2⟩ := List.mem_map.mp ha
    have h2 : q = a := h2
    rw [← h2]
    exact (h.ow q m (List.mem_append_left _ h1)).1
  refine ⟨h.ex, fun a o e => ?_, fun p mo hp => ?_, (List.nodup_append.mp nd).2.1, fun a o e => ?_⟩
  · unfold frameF at e
    split at e
    · exact e
    · exact h.fr a o e
  · obtain ⟨a, b, c⟩ := h.ow p mo (List.mem_append_right _ hp)
    refine ⟨a, ?_, c⟩
    unfold frameF
    rw [if_neg]
    · exact b
    · intro hm
      exact (List.nodup_append.mp nd).2.2 p hm p (List.mem_map.mpr ⟨_, hp, rfl⟩) rfl
  · by_cases ha : a ∈ A.map (·.1)
    · rw [inA a ha] at e; cases e
    · unfold frameF
      rw [if_neg ha]
      rcases h.zc a o e with z | z
      · exact Or.inl z
      · exact Or.inr ⟨z, ha⟩
theorem HFit.back {A O' : OH} {Z' H' : Hp} (h : HFit K F G Z (A ++ O) H) (s : Same Z Z') (h' : HFit K (frameF A F H) (fun a => G a ∧ a ∉ A.map (·.1)) Z' O' H') : HFit K F G Z' (A ++ O') H' := by
  have nd := h.nd
  rw [List.map_append] at nd
  have stay : ∀ p mo, (p, mo) ∈ A → Z' p = none ∧ F p = none ∧ ∃ ho, H' p = some ho ∧ RepMO K Z' mo ho := fun p mo hp => by
    obtain ⟨a, b, ho, c, d⟩ := h.ow p mo (List.mem_append_left _ hp)
    have hm : p ∈ A.map (·.1) := List.mem_map.mpr ⟨_, hp, rfl⟩
    have e1 : frameF A F H p = some ho := by unfold frameF; rw [if_pos hm]; exact c
    refine ⟨?_, b, ho, h'.fr p ho e1, RepMO.mono s d⟩
    cases q : Z' p with
    | none => rfl
    | some o =>
      rcases h'.zc p o q with z | z
      · rw [e1] at z; cases z
      · exact absurd hm z.2
  refine ⟨h'.ex, fun a o e => ?_, fun p mo hp => ?_, ?_, fun a o e => ?_⟩
  · by_cases ha : a ∈ A.map (·.1)
    · obtain ⟨⟨q, m⟩, h1, h2⟩ := List.mem_map.mp ha
      have h2 : q = a := h2
      subst h2
      rw [(h.ow q m (List.mem_append_left _ h1)).2.1] at e; cases e
    · exact h'.fr a o (by unfold frameF; rw [if_neg ha]; exact e)
  · rcases List.mem_append.mp hp with hp | hp
    · exact stay p mo hp
    · obtain ⟨a, b, c⟩ := h'.ow p mo hp
      refine ⟨a, ?_, c⟩
      unfold frameF at b
      split at b
      · rename_i hm
        obtain ⟨⟨q, m⟩, h1, h2⟩ := List.mem_map.mp hm
        have h2 : q = p := h2
        subst h2
        exact (h.ow q m (List.mem_append_left _ h1)).2.1
      · exact b
  · rw [List.map_append]
    refine List.nodup_append.mpr ⟨(List.nodup_append.mp nd).1, h'.nd, fun a ha b hb e => ?_⟩
    subst e
    obtain ⟨⟨q, m⟩, h1, h2⟩ := List.mem_map.mp hb
    have h2 : q = a := h2
    subst h2
    have b := (h'.ow q m h1).2.1
    unfold frameF at b
    rw [if_pos ha] at b
    obtain ⟨⟨q', m'⟩, h3, h4⟩ := List.mem_map.mp ha
    have h4 : q' = q := h4
    subst h4
    obtain ⟨_, _, ho, c, _⟩ := h.ow q' m' (List.mem_append_left _ h3)
    rw [c] at b; cases b
  · rcases h'.zc a o e with z | z
    · unfold frameF at z
      split at z
      · rename_i hm
        obtain ⟨⟨q, m⟩, h1, h2⟩ := List.mem_map.mp hm
        have h2 : q = a := h2
        subst h2
        obtain ⟨_, _, ho, c, _⟩ := h.ow q m (List.mem_append_left _ h1)
        rw [c] at z; cases z
      · exact Or.inl z
    · exact Or.inr z.1
/-- the owned object at the head becomes data -/
theorem HFit.freeze {p : Addr} {mo : MO} (h : HFit K F G Z ((p, mo) :: O) H) {ho : HO} (e : H p = some ho) : HFit K F G (upd Z p ho) O H ∧ Same Z (upd Z p ho) := by
  obtain ⟨nz, nf, _⟩ := h.ow p mo List.mem_cons_self
  have sz : Same Z (upd Z p ho) := same_new nz
  have nd := h.nd
  rw [List.map_cons, List.nodup_cons] at nd
  refine ⟨⟨fun b o q => ?_, h.fr, fun q m hq => ?_, nd.2, fun a o q => ?_⟩, sz⟩
  · by_cases hb : b = p
    · subst hb; rw [upd_same] at q; cases q; exact e
    · rw [upd_ne hb] at q; exact h.ex b o q
  · obtain ⟨a, b, ho', c, d⟩ := h.ow q m (List.mem_cons_of_mem _ hq)
    have hne : q ≠ p := fun z => nd.1 (List.mem_map.mpr ⟨(q, m), hq, z⟩)
    exact ⟨by rw [upd_ne hne]; exact a, b, ho', c, RepMO.mono sz d⟩
  · by_cases hb : a = p
    · subst hb; exact Or.inl nf
    · rw [upd_ne hb] at q; exact h.zc a o q
theorem HFit.perm {O' : OH} (h : HFit K F G Z O H) (p : O.Perm O') : HFit K F G Z O' H :=
  ⟨h.ex, h.fr, fun q m hq => h.ow q m (p.mem_iff.mpr hq), (List.Perm.nodup_iff (p.map _)).mp h.nd, h.zc⟩
theorem HFit.at {k : Nat} {p : Addr} {mo : MO} (h : HFit K F G Z O H) (e : O[k]? = some (p, mo)) : ∃ ho, H p = some ho ∧ RepMO K Z mo ho := (h.ow p mo (List.mem_of_getElem? e)).2.2
end

/-! ### expressions -/
/-- t gives w, what is owned goes from O to O' -/
def Ed (K : PySem.W.Frag) (Γ : Gm) (O : OH) (t : TE) (w : W) (O' : OH) : Prop :=
  ∀ (F : Hp) (G : Addr → Prop) (Z : Hp) (σ : L2.St) (H : Hp), HFit K F G Z O H → SFit K Z Γ σ → ∀ Q : VK,
    (∀ v Z' H', Same Z Z' → HFit K F G Z' O' H' → RepW K Z' w v → Q v H') → t σ H Q
/-- t gives a new object -/
def En (K : PySem.W.Frag) (Γ : Gm) (O : OH) (t : TE) (mo : MO) (O' : OH) : Prop :=
  ∀ (F : Hp) (G : Addr → Prop) (Z : Hp) (σ : L2.St) (H : Hp), HFit K F G Z O H → SFit K Z Γ σ → ∀ Q : VK,
    (∀ p Z' H', Same Z Z' → HFit K F G Z' ((p, mo) :: O') H' → Q (.ref p) H') → t σ H Q
def Et (K : PySem.W.Frag) (Γ : Gm) (O : OH) (t : TT) (b : Bool) (O' : OH) : Prop :=
  ∀ (F : Hp) (G : Addr → Prop) (Z : Hp) (σ : L2.St) (H : Hp), HFit K F G Z O H → SFit K Z Γ σ → ∀ Q : Bool → Hp → Prop,
    (∀ Z' H', Same Z Z' → HFit K F G Z' O' H' → Q b H') → t σ H Q
def Ea (K : PySem.W.Frag) (Γ : Gm) (O : OH) (t : TA) (ws : List W) (O' : OH) : Prop :=
  ∀ (F : Hp) (G : Addr → Prop) (Z : Hp) (σ : L2.St) (H : Hp), HFit K F G Z O H → SFit K Z Γ σ → ∀ Q : List V → Hp → Prop,
    (∀ vs Z' H', Same Z Z' → HFit K F G Z' O' H' → Paired (RepW K Z') ws vs → Q vs H') → t σ H Q
def Eo (K : PySem.W.Frag) (Γ : Gm) (O : OH) (t : TO) (b : Option Int) (O' : OH) : Prop :=
  ∀ (F : Hp) (G : Addr → Prop) (Z : Hp) (σ : L2.St) (H : Hp), HFit K F G Z O H → SFit K Z Γ σ → ∀ Q : Option Int → Hp → Prop,
    (∀ Z' H', Same Z Z' → HFit K F G Z' O' H' → Q b H') → t σ H Q

section
variable {K : PySem.W.Frag} {Γ : Gm} {O O1 O2 O3 : OH} {ta tb te : TE} {w : W} {i j : Int} {d e : PyData}
theorem Ed.is {w' : W} (h : Ed K Γ O te w O1) (e : w = w') : Ed K Γ O te w' O1 := by rw [← e]; exact h
theorem Et.is {tt : TT} {b b' : Bool} (h : Et K Γ O tt b O1) (e : b = b') : Et K Γ O tt b' O1 := by rw [← e]; exact h
theorem En.is {mo mo' : MO} (h : En K Γ O te mo O1) (e : mo = mo') : En K Γ O te mo' O1 := by rw [← e]; exact h
/-- with more that is owned, set aside -/
theorem Ed.frame {A : OH} (h : Ed K Γ O te w O1) : Ed K Γ (A ++ O) te w (A ++ O1) := fun F G Z σ H hf hs Q q =>
  h _ _ Z σ H hf.aside hs Q fun v Z' H' s h' r => q v Z' H' s (hf.back s h') r
theorem Et.frame {A : OH} {tt : TT} {b : Bool} (h : Et K Γ O tt b O1) : Et K Γ (A ++ O) tt b (A ++ O1) := fun F G Z σ H hf hs Q q =>
  h _ _ Z σ H hf.aside hs Q fun Z' H' s h' => q Z' H' s (hf.back s h')
theorem ed_var {i : Nat} (h : Γ[i]? = some (some w)) : Ed K Γ O (tVar i) w O := fun F G Z σ H hf hs Q q => by
  obtain ⟨v, e, r⟩ := hs.get h
  exact ⟨v, e, q v Z H (Same.refl _) hf r⟩
theorem ed_cint : Ed K Γ O (tC (.int i)) (.dat (.int i)) O := fun F G Z σ H hf hs Q q => q _ Z H (Same.refl _) hf (.int i)
theorem ed_cbl {b : Bool} : Ed K Γ O (tC (.bl b)) (.dat (.bool b)) O := fun F G Z σ H hf hs Q q => q _ Z H (Same.refl _) hf (.bl b)
theorem ed_cnon : Ed K Γ O (tC .non) (.dat .none) O := fun F G Z σ H hf hs Q q => q _ Z H (Same.refl _) hf .non
theorem ed_cstr {x : Str} : Ed K Γ O (tC (.str x)) (.dat (.str x)) O := fun F G Z σ H hf hs Q q => q _ Z H (Same.refl _) hf (.str x)
/-- a constant of the module -/
theorem ed_cref {a : Addr} (h : ∀ Z, Rp K Z (.ref a) d) : Ed K Γ O (tC (.ref a)) (.dat d) O := fun F G Z σ H hf hs Q q => q _ Z H (Same.refl _) hf (h Z)
/-- two operands, then what is asked of their values -/
theorem ed_op {r : R2} {x y : W} (ha : Ed K Γ O ta x O1) (hb : Ed K Γ O1 tb y O2)
    (hr : ∀ (F : Hp) (G : Addr → Prop) (Z H : Hp) (u v : V), HFit K F G Z O2 H → RepW K Z x u → RepW K Z y v → ∀ Q : VK, (∀ v Z' H', Same Z Z' → HFit K F G Z' O3 H' → RepW K Z' w v → Q v H') → r u v H Q) : Ed K Γ O (tOp r ta tb) w O3 := fun F G Z σ H hf hs Q q =>
  ha F G Z σ H hf hs _ fun u Z1 H1 s1 h1 r1 => hb F G Z1 σ H1 h1 (hs.mono s1) _ fun v Z2 H2 s2 h2 r2 =>
    hr F G Z2 H2 u v h2 (r1.mono s2) r2 Q fun v Z3 H3 s3 h3 r3 => q v Z3 H3 ((s1.trans s2).trans s3) h3 r3
theorem ed_i2i {f : Int → Int → Int} (ha : Ed K Γ O ta (.dat (.int i)) O1) (hb : Ed K Γ O1 tb (.dat (.int j)) O2) : Ed K Γ O (tOp (rI0 fun i j => .int (f i j)) ta tb) (.dat (.int (f i j))) O2 :=
  ed_op ha hb fun F G Z H u v hf hu hv Q q => by
    cases hu; cases hv
    exact ⟨i, j, rfl, rfl, q _ Z H (Same.refl _) hf (.int _)⟩
theorem ed_i2b {f : Int → Int → Bool} (ha : Ed K Γ O ta (.dat (.int i)) O1) (hb : Ed K Γ O1 tb (.dat (.int j)) O2) : Ed K Γ O (tOp (rI0 fun i j => .bl (f i j)) ta tb) (.dat (.bool (f i j))) O2 :=
  ed_op ha hb fun F G Z H u v hf hu hv Q q => by
    cases hu; cases hv
    exact ⟨i, j, rfl, rfl, q _ Z H (Same.refl _) hf (.bl _)⟩
theorem ed_iC {C : Int → Int → Prop} {f : Int → Int → Int} (ha : Ed K Γ O ta (.dat (.int i)) O1) (hb : Ed K Γ O1 tb (.dat (.int j)) O2) (hc : C i j) : Ed K Γ O (tOp (rI C fun i j => .int (f i j)) ta tb) (.dat (.int (f i j))) O2 :=
  ed_op ha hb fun F G Z H u v hf hu hv Q q => by
    cases hu; cases hv
    exact ⟨i, j, rfl, rfl, hc, q _ Z H (Same.refl _) hf (.int _)⟩
theorem ed_neg {f : Int → Int} (ha : Ed K Γ O ta (.dat (.int i)) O1) : Ed K Γ O (tUn (rU fun i => .int (f i)) ta) (.dat (.int (f i))) O1 := fun F G Z σ H hf hs Q q =>
  ha F G Z σ H hf hs _ fun u Z1 H1 s1 h1 r1 => by
    cases r1
    exact ⟨i, rfl, q _ Z1 H1 s1 h1 (.int _)⟩

/-! data that == compares -/
mutual
def plain : PyData → Bool
  | .dict _ => false
  | .list ds => plainAll ds
  | .tuple ds => plainAll ds
  | _ => true
def plainAll : List PyData → Bool
  | [] => true
  | d :: ds => plain d && plainAll ds
end
mutual
theorem Rp.dp {H : Hp} : ∀ {d : PyData} {v : V}, Rp K H v d → plain d = true → Dp K H v d
  | .none, _, h, _ => by cases h; exact .non
  | .bool b, _, h, _ => by cases h; exact .bl b
  | .int i, _, h, _ => by cases h; exact .int i
  | .str x, _, h, _ => by cases h; exact .str x
  | .list ds, _, h, p => by
    cases h with
    | lst h r => exact .lst h (RpAll.dp r (by unfold plain at p; exact p))
  | .tuple ds, _, h, p => by
    cases h with
    | tup h r => exact .tup h (RpAll.dp r (by unfold plain at p; exact p))
  | .dict ds, _, h, p => by unfold plain at p; cases p
theorem RpAll.dp {H : Hp} : ∀ {ds : List PyData} {vs : List V}, RpAll K H vs ds → plainAll ds = true → DpAll K H vs ds
  | [], _, h, _ => by cases h; exact .nil
  | d :: ds, _, h, p => by
    unfold plainAll at p
    rw [Bool.and_eq_true] at p
    cases h with
    | cons h r => exact .cons (Rp.dp h p.1) (RpAll.dp r p.2)
end
def rEqE (K : PySem.W.Frag) : R2 := fun x y H Q => rEqD K x y H Q ∨ rEq x y H Q
def rNeE (K : PySem.W.Frag) : R2 := fun x y H Q => rNeD K x y H Q ∨ rNe x y H Q
theorem ed_eqD (ha : Ed K Γ O ta (.dat d) O1) (hb : Ed K Γ O1 tb (.dat e) O2) (p1 : plain d = true) (p2 : plain e = true) (s1 : SeqAt.shaped d = true) (s2 : SeqAt.shaped e = true) : Ed K Γ O (tOp (rEqE K) ta tb) (.dat (.bool (PyData.eqv d e))) O2 :=
  ed_op ha hb fun F G Z H u v hf hu hv Q q => Or.inl ⟨d, e, (Rp.mono hf.ex hu).dp p1, (Rp.mono hf.ex hv).dp p2, s1, s2, q _ Z H (Same.refl _) hf (.bl _)⟩
theorem ed_neD (ha : Ed K Γ O ta (.dat d) O1) (hb : Ed K Γ O1 tb (.dat e) O2) (p1 : plain d = true) (p2 : plain e = true) (s1 : SeqAt.shaped d = true) (s2 : SeqAt.shaped e = true) : Ed K Γ O (tOp (rNeE K) ta tb) (.dat (.bool (!PyData.eqv d e))) O2 :=
  ed_op ha hb fun F G Z H u v hf hu hv Q q => Or.inl ⟨d, e, (Rp.mono hf.ex hu).dp p1, (Rp.mono hf.ex hv).dp p2, s1, s2, q _ Z H (Same.refl _) hf (.bl _)⟩
theorem ed_eqS {x y : Str} (ha : Ed K Γ O ta (.dat (.str x)) O1) (hb : Ed K Γ O1 tb (.dat (.str y)) O2) : Ed K Γ O (tOp (rEqE K) ta tb) (.dat (.bool (x == y))) O2 :=
  ed_op ha hb fun F G Z H u v hf hu hv Q q => by
    cases hu; cases hv
    exact Or.inr ⟨rfl, q _ Z H (Same.refl _) hf (by rw [dec_str]; exact .bl _)⟩
theorem ed_neS {x y : Str} (ha : Ed K Γ O ta (.dat (.str x)) O1) (hb : Ed K Γ O1 tb (.dat (.str y)) O2) : Ed K Γ O (tOp (rNeE K) ta tb) (.dat (.bool (!(x == y)))) O2 :=
  ed_op ha hb fun F G Z H u v hf hu hv Q q => by
    cases hu; cases hv
    exact Or.inr ⟨rfl, q _ Z H (Same.refl _) hf (by rw [dec_str]; exact .bl _)⟩
/-! items -/
theorem atI_rel {α β : Type} {R : α → β → Prop} {xs : List α} {ys : List β} {i : Int} {x : α} (hl : xs.length = ys.length) (hg : ∀ (j : Nat) (x : α), xs[j]? = some x → ∃ y, ys[j]? = some y ∧ R x y) (h : atI xs i = some x) : ∃ y, atI ys i = some y ∧ R x y := by
  unfold atI at h ⊢
  rw [hl] at h
  cases e : ixN ys.length i with
  | none => rw [e] at h; cases h
  | some j =>
    rw [e] at h
    exact hg j x h
theorem ed_ixT {ds : List PyData} (ha : Ed K Γ O ta (.dat (.tuple ds)) O1) (hb : Ed K Γ O1 tb (.dat (.int i)) O2) (h : atI ds i = some d) : Ed K Γ O (tOp (rIx K) ta tb) (.dat d) O2 :=
  ed_op ha hb fun F G Z H u v hf hu hv Q q => by
    cases hu with
    | tup hq r =>
      cases hv
      obtain ⟨v, e1, rv⟩ := atI_rel (R := fun d v => Rp K Z v d) r.length.symm (fun j x e => r.get e) h
      exact Or.inr (Or.inl ⟨_, _, i, v, rfl, rfl, same_t hf.ex hq, e1, q v Z H (Same.refl _) hf rv⟩)
theorem ed_ixL {ds : List PyData} (ha : Ed K Γ O ta (.dat (.list ds)) O1) (hb : Ed K Γ O1 tb (.dat (.int i)) O2) (h : atI ds i = some d) : Ed K Γ O (tOp (rIx K) ta tb) (.dat d) O2 :=
  ed_op ha hb fun F G Z H u v hf hu hv Q q => by
    cases hu with
    | lst hq r =>
      cases hv
      obtain ⟨v, e1, rv⟩ := atI_rel (R := fun d v => Rp K Z v d) r.length.symm (fun j x e => r.get e) h
      exact Or.inl ⟨_, _, i, v, rfl, rfl, same_l hf.ex hq, e1, q v Z H (Same.refl _) hf rv⟩
theorem ed_ixS {x : Str} {c : Nat} (ha : Ed K Γ O ta (.dat (.str x)) O1) (hb : Ed K Γ O1 tb (.dat (.int i)) O2) (hz : x.length ≤ sizeLine) (h : atI x.cps.toList i = some c) : Ed K Γ O (tOp (rIx K) ta tb) (.dat (.str ⟨#[c]⟩)) O2 :=
  ed_op ha hb fun F G Z H u v hf hu hv Q q => by
    cases hu; cases hv
    exact Or.inr (Or.inr ⟨x, i, c, rfl, rfl, hz, h, q _ Z H (Same.refl _) hf (.str _)⟩)
/-- an item of an owned list -/
theorem ed_ixO {k : Nat} {p : Addr} {ws : List W} (ha : Ed K Γ O ta (.own p) O1) (hb : Ed K Γ O1 tb (.dat (.int i)) O2) (hk : O2[k]? = some (p, .lst ws)) (h : atI ws i = some w) : Ed K Γ O (tOp (rIx K) ta tb) w O2 :=
  ed_op ha hb fun F G Z H u v hf hu hv Q q => by
    cases hu; cases hv
    obtain ⟨ho, e1, r⟩ := hf.at hk
    cases ho with
    | lst vs =>
      have r : Paired (RepW K Z) ws vs := r
      obtain ⟨v, e2, rv⟩ := atI_rel (R := fun w v => RepW K Z w v) (Paired.length r) (fun j x e => paired_get r e) h
      exact Or.inl ⟨_, _, i, v, rfl, rfl, SqL.of e1, e2, q v Z H (Same.refl _) hf rv⟩
    | _ => exact r.elim
/-! tests -/
variable {t u : TT} {a b : Bool}
theorem et_test (h : Ed K Γ O te (.dat (.bool b)) O1) : Et K Γ O (tTest te) b O1 := fun F G Z σ H hf hs Q q => h F G Z σ H hf hs _ fun v Z1 H1 s1 h1 r1 => by
  cases r1
  exact ⟨b, rfl, q Z1 H1 s1 h1⟩
theorem et_B (h : Ed K Γ O te (.dat (.bool b)) O1) : Et K Γ O (tB te) b O1 := fun F G Z σ H hf hs Q q => h F G Z σ H hf hs _ fun v Z1 H1 s1 h1 r1 => by
  cases r1
  exact ⟨b, rfl, q Z1 H1 s1 h1⟩
theorem et_yes : Et K Γ O tYes true O := fun F G Z σ H hf hs Q q => q Z H (Same.refl _) hf
theorem et_not (h : Et K Γ O t b O1) : Et K Γ O (tNot t) (!b) O1 := fun F G Z σ H hf hs Q q => h F G Z σ H hf hs _ fun Z1 H1 s1 h1 => q Z1 H1 s1 h1
/-- and, or: the second is asked only where it matters -/
theorem et_and (h1 : Et K Γ O t a O1) (h2 : a = true → Et K Γ O1 u b O2) (h3 : a = false → O1 = O2 ∧ b = false) : Et K Γ O (tAnd t u) b O2 := fun F G Z σ H hf hs Q q => h1 F G Z σ H hf hs _ fun Z1 H1 s1 g1 => by
  cases a with
  | true => exact h2 rfl F G Z1 σ H1 g1 (hs.mono s1) Q fun Z2 H2 s2 g2 => q Z2 H2 (s1.trans s2) g2
  | false =>
    obtain ⟨rfl, rfl⟩ := h3 rfl
    exact q Z1 H1 s1 g1
theorem et_or (h1 : Et K Γ O t a O1) (h2 : a = false → Et K Γ O1 u b O2) (h3 : a = true → O1 = O2 ∧ b = true) : Et K Γ O (tOr t u) b O2 := fun F G Z σ H hf hs Q q => h1 F G Z σ H hf hs _ fun Z1 H1 s1 g1 => by
  cases a with
  | false => exact h2 rfl F G Z1 σ H1 g1 (hs.mono s1) Q fun Z2 H2 s2 g2 => q Z2 H2 (s1.trans s2) g2
  | true =>
    obtain ⟨rfl, rfl⟩ := h3 rfl
    exact q Z1 H1 s1 g1
/-- and, or of tests that change nothing -/
theorem et_andP (h1 : Et K Γ O t a O) (h2 : a = true → Et K Γ O u b O) : Et K Γ O (tAnd t u) (a && b) O := by
  cases a with
  | true => exact et_and h1 h2 (fun z => Bool.noConfusion z)
  | false => exact et_and (b := false) h1 (fun z => Bool.noConfusion z) (fun _ => ⟨rfl, rfl⟩)
theorem et_orP (h1 : Et K Γ O t a O) (h2 : a = false → Et K Γ O u b O) : Et K Γ O (tOr t u) (a || b) O := by
  cases a with
  | false => exact et_or h1 h2 (fun z => Bool.noConfusion z)
  | true => exact et_or (b := true) h1 (fun z => Bool.noConfusion z) (fun _ => ⟨rfl, rfl⟩)
theorem ed_andV {w : PyData} (h1 : Ed K Γ O ta (.dat (.bool a)) O1) (h2 : a = true → Ed K Γ O1 tb (.dat w) O2) (h3 : a = false → O1 = O2 ∧ w = .bool false) : Ed K Γ O (tAndV ta tb) (.dat w) O2 := fun F G Z σ H hf hs Q q => h1 F G Z σ H hf hs _ fun v Z1 H1 s1 g1 r1 => by
  cases r1
  refine ⟨a, rfl, ?_⟩
  cases a with
  | true => exact h2 rfl F G Z1 σ H1 g1 (hs.mono s1) Q fun v Z2 H2 s2 g2 r2 => q v Z2 H2 (s1.trans s2) g2 r2
  | false =>
    obtain ⟨rfl, rfl⟩ := h3 rfl
    exact q _ Z1 H1 s1 g1 (.bl false)
theorem ed_orV {w : PyData} (h1 : Ed K Γ O ta (.dat (.bool a)) O1) (h2 : a = false → Ed K Γ O1 tb (.dat w) O2) (h3 : a = true → O1 = O2 ∧ w = .bool true) : Ed K Γ O (tOrV ta tb) (.dat w) O2 := fun F G Z σ H hf hs Q q => h1 F G Z σ H hf hs _ fun v Z1 H1 s1 g1 r1 => by
  cases r1
  refine ⟨a, rfl, ?_⟩
  cases a with
  | false => exact h2 rfl F G Z1 σ H1 g1 (hs.mono s1) Q fun v Z2 H2 s2 g2 r2 => q v Z2 H2 (s1.trans s2) g2 r2
  | true =>
    obtain ⟨rfl, rfl⟩ := h3 rfl
    exact q _ Z1 H1 s1 g1 (.bl true)
theorem ed_andP (h1 : Ed K Γ O ta (.dat (.bool a)) O) (h2 : a = true → Ed K Γ O tb (.dat (.bool b)) O) : Ed K Γ O (tAndV ta tb) (.dat (.bool (a && b))) O := by
  cases a with
  | true => exact ed_andV h1 h2 (fun z => Bool.noConfusion z)
  | false => exact ed_andV (w := .bool false) h1 (fun z => Bool.noConfusion z) (fun _ => ⟨rfl, rfl⟩)
theorem ed_orP (h1 : Ed K Γ O ta (.dat (.bool a)) O) (h2 : a = false → Ed K Γ O tb (.dat (.bool b)) O) : Ed K Γ O (tOrV ta tb) (.dat (.bool (a || b))) O := by
  cases a with
  | false => exact ed_orV h1 h2 (fun z => Bool.noConfusion z)
  | true => exact ed_orV (w := .bool true) h1 (fun z => Bool.noConfusion z) (fun _ => ⟨rfl, rfl⟩)
theorem ed_notV (h : Ed K Γ O ta (.dat (.bool b)) O1) : Ed K Γ O (tNotV ta) (.dat (.bool (!b))) O1 := fun F G Z σ H hf hs Q q => h F G Z σ H hf hs _ fun v Z1 H1 s1 g1 r1 => by
  cases r1
  exact ⟨b, rfl, q _ Z1 H1 s1 g1 (.bl _)⟩
theorem ed_if (h : Et K Γ O t b O1) (h1 : b = true → Ed K Γ O1 ta w O2) (h2 : b = false → Ed K Γ O1 tb w O2) : Ed K Γ O (tIf t ta tb) w O2 := fun F G Z σ H hf hs Q q => h F G Z σ H hf hs _ fun Z1 H1 s1 g1 => by
  cases b with
  | true => exact h1 rfl F G Z1 σ H1 g1 (hs.mono s1) Q fun v Z2 H2 s2 g2 r2 => q v Z2 H2 (s1.trans s2) g2 r2
  | false => exact h2 rfl F G Z1 σ H1 g1 (hs.mono s1) Q fun v Z2 H2 s2 g2 r2 => q v Z2 H2 (s1.trans s2) g2 r2
/-- is None -/
theorem ed_isN (ha : Ed K Γ O ta (.dat d) O1) (hb : Ed K Γ O1 tb (.dat .none) O2) {n : Bool} (hn : n = (match d with | .none => true | _ => false)) : Ed K Γ O (tOp (fun x y H Q => y = .non ∧ Q (.bl (decide (x = .non))) H) ta tb) (.dat (.bool n)) O2 :=
  ed_op ha hb fun F G Z H u v hf hu hv Q q => by
    cases hv
    refine ⟨rfl, ?_⟩
    have : decide (u = V.non) = n := by subst hn; cases hu <;> rfl
    rw [this]
    exact q _ Z H (Same.refl _) hf (.bl _)
theorem ed_notN (ha : Ed K Γ O ta (.dat d) O1) (hb : Ed K Γ O1 tb (.dat .none) O2) {n : Bool} (hn : n = (match d with | .none => false | _ => true)) : Ed K Γ O (tOp (fun x y H Q => y = .non ∧ Q (.bl (!decide (x = .non))) H) ta tb) (.dat (.bool n)) O2 :=
  ed_op ha hb fun F G Z H u v hf hu hv Q q => by
    cases hv
    refine ⟨rfl, ?_⟩
    have : (!decide (u = V.non)) = n := by subst hn; cases hu <;> rfl
    rw [this]
    exact q _ Z H (Same.refl _) hf (.bl _)
/-! arguments, displays -/
variable {tr : TA} {ws : List W} {ds : List PyData}
theorem ea_nil : Ea K Γ O tNil [] O := fun F G Z σ H hf hs Q q => q [] Z H (Same.refl _) hf .nil
theorem ea_cons {x : W} (h : Ed K Γ O ta x O1) (hr : Ea K Γ O1 tr ws O2) : Ea K Γ O (tCons ta tr) (x :: ws) O2 := fun F G Z σ H hf hs Q q =>
  h F G Z σ H hf hs _ fun v Z1 H1 s1 h1 r1 => hr F G Z1 σ H1 h1 (hs.mono s1) _ fun vs Z2 H2 s2 h2 r2 => q (v :: vs) Z2 H2 (s1.trans s2) h2 (.cons (r1.mono s2) r2)
def dats (ds : List PyData) : List W := ds.map .dat
theorem rpAll_of : ∀ {ds : List PyData} {vs : List V} {Z : Hp}, Paired (RepW K Z) (dats ds) vs → RpAll K Z vs ds
  | [], _, _, h => by cases h; exact .nil
  | d :: ds, _, _, h => by
    cases h with
    | cons r t => exact .cons r (rpAll_of t)
theorem of_rpAll : ∀ {ds : List PyData} {vs : List V} {Z : Hp}, RpAll K Z vs ds → Paired (RepW K Z) (dats ds) vs
  | [], _, _, h => by cases h; exact .nil
  | d :: ds, _, _, h => by
    cases h with
    | cons r t => exact .cons r (of_rpAll t)
theorem ed_tup (h : Ea K Γ O tr (dats ds) O1) (hl : ds.length ≤ sizeLine) : Ed K Γ O (tTup tr) (.dat (.tuple ds)) O1 := fun F G Z σ H hf hs Q q =>
  h F G Z σ H hf hs _ fun vs Z1 H1 s1 h1 r1 => by
    have r := rpAll_of r1
    refine ⟨by rw [r.length]; exact hl, fun p hp => ?_⟩
    exact q _ _ _ (s1.trans (same_new (h1.ex.free hp))) (h1.new hp) (.tup (SqT.of upd_same) (r.mono (same_new (h1.ex.free hp))))
theorem en_lst (h : Ea K Γ O tr ws O1) (hl : ws.length ≤ sizeLine) : En K Γ O (tLst tr) (.lst ws) O1 := fun F G Z σ H hf hs Q q =>
  h F G Z σ H hf hs _ fun vs Z1 H1 s1 h1 r1 => ⟨by rw [← Paired.length r1]; exact hl, fun p hp => q p Z1 _ s1 (h1.newO hp r1)⟩
/-- a new list becomes data -/
theorem En.ed (h : En K Γ O te (.lst (dats ds)) O1) : Ed K Γ O te (.dat (.list ds)) O1 := fun F G Z σ H hf hs Q q =>
  h F G Z σ H hf hs Q fun p Z1 H1 s1 h1 => by
    obtain ⟨_, _, ho, e, r⟩ := h1.ow p _ List.mem_cons_self
    cases ho with
    | lst vs =>
      obtain ⟨h2, s2⟩ := h1.freeze e
      exact q _ _ _ (s1.trans s2) h2 (.lst (SqL.of upd_same) ((rpAll_of r).mono s2))
    | _ => exact r.elim
/-! calls -/
/-- the promise of a def: R args owned value owned' -/
def spR (K : PySem.W.Frag) (R : List W → OH → W → OH → Prop) : Sp := fun vs H Q _ => ∃ (F : Hp) (G : Addr → Prop) (Z : Hp) (O : OH) (ws : List W) (w : W) (O' : OH),
  HFit K F G Z O H ∧ Paired (RepW K Z) ws vs ∧ R ws O w O' ∧ ∀ v Z' H', Same Z Z' → HFit K F G Z' O' H' → RepW K Z' w v → Q v H'
/-- a def that gives data for data and changes nothing -/
def pure1 (R : List PyData → PyData → Prop) : List W → OH → W → OH → Prop := fun ws O w O' => O = [] ∧ O' = [] ∧ ∃ ds d, ws = dats ds ∧ w = .dat d ∧ R ds d
/-- .. gives a new object -/
def spN (K : PySem.W.Frag) (R : List W → OH → MO → OH → Prop) : Sp := fun vs H Q _ => ∃ (F : Hp) (G : Addr → Prop) (Z : Hp) (O : OH) (ws : List W) (mo : MO) (O' : OH),
  HFit K F G Z O H ∧ Paired (RepW K Z) ws vs ∧ R ws O mo O' ∧ ∀ p Z' H', Same Z Z' → HFit K F G Z' ((p, mo) :: O') H' → Q (.ref p) H'
theorem ed_callR {R : List W → OH → W → OH → Prop} {E : XK} {A : OH} (ha : Ea K Γ O tr ws (A ++ O1)) (hR : R ws O1 w O2) : Ed K Γ O (tCall (spR K R) [] E tr) w (A ++ O2) := fun F G Z σ H hf hs Q q =>
  ha F G Z σ H hf hs _ fun vs Z1 H1 s1 h1 r1 =>
    ⟨_, _, Z1, O1, ws, w, O2, h1.aside, by rw [List.append_nil]; exact r1, hR, fun v Z2 H2 s2 h2 r2 => q v Z2 H2 (s1.trans s2) (h1.back s2 h2) r2⟩
theorem ed_call {R : List PyData → PyData → Prop} {E : XK} (ha : Ea K Γ O tr (dats ds) O1) (hR : R ds d) : Ed K Γ O (tCall (spR K (pure1 R)) [] E tr) (.dat d) O1 := by
  have h := ed_callR (E := E) (A := O1) (O1 := []) (O2 := []) (R := pure1 R) (w := .dat d) (by rw [List.append_nil]; exact ha) ⟨rfl, rfl, ds, d, rfl, rfl, hR⟩
  rw [List.append_nil] at h
  exact h
theorem en_callR {R : List W → OH → MO → OH → Prop} {E : XK} {A : OH} {mo : MO} (ha : Ea K Γ O tr ws (A ++ O1)) (hR : R ws O1 mo O2) : En K Γ O (tCall (spN K R) [] E tr) mo (A ++ O2) := fun F G Z σ H hf hs Q q =>
  ha F G Z σ H hf hs _ fun vs Z1 H1 s1 h1 r1 =>
    ⟨_, _, Z1, O1, ws, mo, O2, h1.aside, by rw [List.append_nil]; exact r1, hR, fun p Z2 H2 s2 h2 => q p Z2 H2 (s1.trans s2) ((h1.back s2 h2).perm List.perm_middle)⟩
end
end TB

end
-- TB2
section
set_option Elab.async false
set_option linter.all false
set_option maxRecDepth 100000
set_option maxHeartbeats 2000000
/-! TB2: statements, loops, comprehensions, defs at the data level. -/
namespace TB
open PySem L2
/-- what is wanted behind a statement -/
structure Dn where
  nx : Gm → OH → Prop
  rt : W → OH → Prop
  bk : Gm → OH → Prop := fun _ _ => False
  ct : Gm → OH → Prop := fun _ _ => False
structure EndsOk (K : PySem.W.Frag) (F : Hp) (G : Addr → Prop) (Z : Hp) (D : Dn) (E : Ends) : Prop where
  nx : ∀ Γ O Z' σ H, D.nx Γ O → Same Z Z' → HFit K F G Z' O H → SFit K Z' Γ σ → E.nx σ H
  rt : ∀ w O v Z' H, D.rt w O → Same Z Z' → HFit K F G Z' O H → RepW K Z' w v → E.rt v H
  bk : ∀ Γ O Z' σ H, D.bk Γ O → Same Z Z' → HFit K F G Z' O H → SFit K Z' Γ σ → E.bk σ H
  ct : ∀ Γ O Z' σ H, D.ct Γ O → Same Z Z' → HFit K F G Z' O H → SFit K Z' Γ σ → E.ct σ H
theorem EndsOk.mono {K : PySem.W.Frag} {F : Hp} {G : Addr → Prop} {Z Z' : Hp} {D : Dn} {E : Ends} (h : EndsOk K F G Z D E) (s : Same Z Z') : EndsOk K F G Z' D E :=
  ⟨fun Γ O Z2 σ H a b => h.nx Γ O Z2 σ H a (s.trans b), fun w O v Z2 H a b => h.rt w O v Z2 H a (s.trans b), fun Γ O Z2 σ H a b => h.bk Γ O Z2 σ H a (s.trans b), fun Γ O Z2 σ H a b => h.ct Γ O Z2 σ H a (s.trans b)⟩
def Rn (K : PySem.W.Frag) (Γ : Gm) (O : OH) (t : TS) (D : Dn) : Prop :=
  ∀ (F : Hp) (G : Addr → Prop) (Z : Hp) (σ : L2.St) (H : Hp), HFit K F G Z O H → SFit K Z Γ σ → ∀ E : Ends, EndsOk K F G Z D E → t E σ H
section
variable {K : PySem.W.Frag} {Γ Γ' : Gm} {O O1 O2 O3 : OH} {ta tb te : TE} {t u : TS} {D : Dn} {w : W} {i j : Nat} {d e : PyData}
theorem rn_seq (h : Rn K Γ O t { D with nx := fun Γ' O' => Rn K Γ' O' u D }) : Rn K Γ O (tSeq t u) D := fun F G Z σ H hf hs E he =>
  h F G Z σ H hf hs { E with nx := u E } ⟨fun Γ' O' Z' σ' H' r s g1 g2 => r F G Z' σ' H' g1 g2 E (he.mono s), he.rt, he.bk, he.ct⟩
theorem rn_next (h : D.nx Γ O) : Rn K Γ O tNext D := fun F G Z σ H hf hs E he => he.nx Γ O Z σ H h (Same.refl _) hf hs
theorem rn_ret (h : Ed K Γ O te w O1) (k : D.rt w O1) : Rn K Γ O (tRet te) D := fun F G Z σ H hf hs E he =>
  h F G Z σ H hf hs _ fun v Z1 H1 s1 h1 r1 => he.rt w O1 v Z1 H1 k s1 h1 r1
theorem rn_retN (k : D.rt (.dat .none) O) : Rn K Γ O tRetN D := fun F G Z σ H hf hs E he => he.rt _ O _ Z H k (Same.refl _) hf .non
theorem rn_asg (h : Ed K Γ O te w O1) (k : D.nx (Γ.set i (some w)) O1) : Rn K Γ O (tAsg te (gName i)) D := fun F G Z σ H hf hs E he =>
  h F G Z σ H hf hs _ fun v Z1 H1 s1 h1 r1 => he.nx _ O1 Z1 _ H1 k s1 h1 ((hs.mono s1).set i r1)
/-- x = a new object, which is owned from here on -/
theorem rn_asgN {mo : MO} (h : En K Γ O te mo O1) (k : ∀ p, D.nx (Γ.set i (some (.own p))) ((p, mo) :: O1)) : Rn K Γ O (tAsg te (gName i)) D := fun F G Z σ H hf hs E he =>
  h F G Z σ H hf hs _ fun p Z1 H1 s1 h1 => he.nx _ _ Z1 _ H1 (k p) s1 h1 ((hs.mono s1).set i rfl)
theorem rn_if {c : TT} {b : Bool} (h : Et K Γ O c b O1) (h1 : b = true → Rn K Γ O1 t D) (h2 : b = false → Rn K Γ O1 u D) : Rn K Γ O (tIfS c t u) D := fun F G Z σ H hf hs E he =>
  h F G Z σ H hf hs _ fun Z1 H1 s1 g1 => by
    cases b with
    | true => exact h1 rfl F G Z1 σ H1 g1 (hs.mono s1) E (he.mono s1)
    | false => exact h2 rfl F G Z1 σ H1 g1 (hs.mono s1) E (he.mono s1)
theorem rn_drop (h : Ed K Γ O te w O1) (k : D.nx Γ O1) : Rn K Γ O (tDrop te) D := fun F G Z σ H hf hs E he =>
  h F G Z σ H hf hs _ fun v Z1 H1 s1 h1 r1 => he.nx Γ O1 Z1 σ H1 k s1 h1 (hs.mono s1)
theorem rn_break (k : D.bk Γ O) : Rn K Γ O tBreak D := fun F G Z σ H hf hs E he => he.bk Γ O Z σ H k (Same.refl _) hf hs
theorem rn_cont (k : D.ct Γ O) : Rn K Γ O tCont D := fun F G Z σ H hf hs E he => he.ct Γ O Z σ H k (Same.refl _) hf hs
/-- a, b = x, y -/
theorem rn_par {tr : TA} {x y : W} (h : Ea K Γ O tr [x, y] O1) (k : D.nx ((Γ.set i (some x)).set j (some y)) O1) : Rn K Γ O (tPar i j tr) D := fun F G Z σ H hf hs E he =>
  h F G Z σ H hf hs _ fun vs Z1 H1 s1 h1 r1 => by
    cases r1 with
    | cons r1 r =>
      cases r with
      | cons r2 r =>
        cases r
        exact ⟨_, _, rfl, he.nx _ O1 Z1 _ H1 k s1 h1 (((hs.mono s1).set i r1).set j r2)⟩
/-! targets -/
/-- w goes to the target: the slots go from Γ to Γ' -/
def Tg (K : PySem.W.Frag) (g : TG) (w : W) (Γ Γ' : Gm) : Prop :=
  ∀ (Z : Hp) (σ : L2.St) (H : Hp) (v : V), Same Z H → SFit K Z Γ σ → RepW K Z w v → ∀ Q : L2.St → Hp → Prop, (∀ σ', SFit K Z Γ' σ' → Q σ' H) → g v σ H Q
def Tgs (K : PySem.W.Frag) (g : TGs) (ds : List PyData) (Γ Γ' : Gm) : Prop :=
  ∀ (Z : Hp) (σ : L2.St) (H : Hp) (vs : List V), Same Z H → SFit K Z Γ σ → RpAll K Z vs ds → ∀ Q : L2.St → Hp → Prop, (∀ σ', SFit K Z Γ' σ' → Q σ' H) → g vs σ H Q
theorem tg_name : Tg K (gName i) w Γ (Γ.set i (some w)) := fun Z σ H v s hs r Q q => q _ (hs.set i r)
theorem tgs_nil : Tgs K gNil [] Γ Γ := fun Z σ H vs s hs r Q q => by cases r; exact ⟨rfl, q σ hs⟩
theorem tgs_cons {g : TG} {gs : TGs} {ds : List PyData} {Γ1 : Gm} (h : Tg K g (.dat d) Γ Γ1) (hr : Tgs K gs ds Γ1 Γ') : Tgs K (gCons g gs) (d :: ds) Γ Γ' := fun Z σ H vs s hs r Q q => by
  cases r with
  | cons r rr => exact ⟨_, _, rfl, h Z σ H _ s hs r _ fun σ1 hs1 => hr Z σ1 H _ s hs1 rr Q q⟩
theorem tg_tup {gs : TGs} {ds : List PyData} {n : Nat} (h : Tgs K gs ds Γ Γ') (hn : ds.length = n) : Tg K (gTup K n gs) (.dat (.tuple ds)) Γ Γ' := fun Z σ H v s hs r Q q => by
  cases r with
  | tup hq r => exact ⟨_, _, rfl, same_t s hq, by rw [r.length]; exact hn, h Z σ H _ s hs r Q q⟩
theorem rn_asgT {g : TG} (h : Ed K Γ O te w O1) (hg : Tg K g w Γ Γ') (k : D.nx Γ' O1) : Rn K Γ O (tAsg te g) D := fun F G Z σ H hf hs E he =>
  h F G Z σ H hf hs _ fun v Z1 H1 s1 h1 r1 => hg Z1 σ H1 v h1.ex (hs.mono s1) r1 _ fun σ' hs' => he.nx _ O1 Z1 _ H1 k s1 h1 hs'
/-! what is walked -/
/-- J gives the items, whatever else goes on, as long as what stands in Z stands and C holds of what is owned -/
structure WalkD (K : PySem.W.Frag) (Z : Hp) (C : OH → Prop) (J : It) (ws : List W) : Prop where
  go : ∀ (F : Hp) (G : Addr → Prop) (Z1 : Hp) (O1 : OH) (H1 : Hp) (n : Nat), n < ws.length → Same Z Z1 → HFit K F G Z1 O1 H1 → C O1 → J.go n H1
  yld : ∀ (F : Hp) (G : Addr → Prop) (Z1 : Hp) (O1 : OH) (H1 : Hp) (n : Nat) (w : W) (x : V) (H2 : Hp), ws[n]? = some w → Same Z Z1 → HFit K F G Z1 O1 H1 → C O1 → J.yld n H1 x H2 →
    ∃ Z2, Same Z1 Z2 ∧ HFit K F G Z2 O1 H2 ∧ RepW K Z2 w x
  stop : ∀ (F : Hp) (G : Addr → Prop) (Z1 : Hp) (O1 : OH) (H1 : Hp), Same Z Z1 → HFit K F G Z1 O1 H1 → C O1 → J.stop ws.length H1
def Ei (K : PySem.W.Frag) (Γ : Gm) (O : OH) (wi : TI) (ws : List W) (C : OH → Prop) (O' : OH) : Prop :=
  ∀ (F : Hp) (G : Addr → Prop) (Z : Hp) (σ : L2.St) (H : Hp), HFit K F G Z O H → SFit K Z Γ σ → ∀ R : It → Hp → Prop,
    (∀ J Z' H', Same Z Z' → HFit K F G Z' O' H' → WalkD K Z' C J ws → R J H') → wi σ H R
theorem rn_for {wi : TI} {g : TG} {ws : List W} {C : OH → Prop} (hi : Ei K Γ O wi ws C O1) (Iv : Nat → Gm → OH → Prop) (h0 : Iv 0 Γ O1) (hC : ∀ n Γ' O', n ≤ ws.length → Iv n Γ' O' → C O')
    (hs : ∀ n w Γ1 O', ws[n]? = some w → Iv n Γ1 O' → ∃ Γ2, Tg K g w Γ1 Γ2 ∧ Rn K Γ2 O' t { D with nx := Iv (n + 1), ct := Iv (n + 1), bk := D.nx }) (hd : ∀ Γ' O', Iv ws.length Γ' O' → D.nx Γ' O') : Rn K Γ O (tFor wi g t) D := fun F G Z σ H hf hsl E he =>
  hi F G Z σ H hf hsl _ fun J Z1 H1 s1 h1 wk => by
    refine ⟨fun n m σ' H' => m = ws.length - n ∧ n ≤ ws.length ∧ ∃ Γ' O' Z', Iv n Γ' O' ∧ Same Z1 Z' ∧ HFit K F G Z' O' H' ∧ SFit K Z' Γ' σ', ⟨ws.length, by simp, Nat.zero_le _, Γ, O1, Z1, h0, Same.refl _, h1, hsl.mono s1⟩, ?_⟩
    rintro n m σ' H' ⟨rfl, hn, Γ1, O', Z2, iv, s2, h2, sl2⟩
    have c := hC n Γ1 O' hn iv
    by_cases hlt : n < ws.length
    · refine Or.inr ⟨wk.go F G Z2 O' H' n hlt s2 h2 c, fun σ3 H3 => ∃ Γ' O' Z', Iv (n + 1) Γ' O' ∧ Same Z1 Z' ∧ HFit K F G Z' O' H3 ∧ SFit K Z' Γ' σ3, fun σ3 H3 q => ⟨ws.length - (n + 1), by omega, rfl, hlt, q⟩, fun x H3 y => ?_⟩
      obtain ⟨Z3, s3, h3, r3⟩ := wk.yld F G Z2 O' H' n ws[n] x H3 (by simp [hlt]) s2 h2 c y
      obtain ⟨Γ2, tg, rn⟩ := hs n ws[n] Γ1 O' (by simp [hlt]) iv
      refine tg Z3 σ' H3 x h3.ex (sl2.mono s3) r3 _ fun σ4 sl4 => ?_
      have s4 : Same Z1 Z3 := s2.trans s3
      have s5 : Same Z Z3 := s1.trans s4
      refine rn F G Z3 σ4 H3 h3 sl4 _ ⟨?_, ?_, ?_, ?_⟩
      · intro Γ' O'' Z' σ5 H5 i5 s5 h5 sl5
        exact ⟨Γ', O'', Z', i5, s4.trans s5, h5, sl5⟩
      · intro w O'' v Z' H5 i5 s6 h5 r5
        exact he.rt w O'' v Z' H5 i5 (s5.trans s6) h5 r5
      · intro Γ' O'' Z' σ5 H5 i5 s6 h5 sl5
        exact he.nx Γ' O'' Z' σ5 H5 i5 (s5.trans s6) h5 sl5
      · intro Γ' O'' Z' σ5 H5 i5 s5 h5 sl5
        exact ⟨Γ', O'', Z', i5, s4.trans s5, h5, sl5⟩
    · have e : n = ws.length := by omega
      subst e
      exact Or.inl ⟨wk.stop F G Z2 O' H' s2 h2 c, he.nx Γ1 O' Z2 σ' H' (hd _ _ iv) (s1.trans s2) h2 sl2⟩
theorem rn_while {c : TT} (Iv : Nat → Gm → OH → Prop) (m0 : Nat) (h0 : Iv m0 Γ O)
    (hs : ∀ m Γ1 O', Iv m Γ1 O' → ∃ b O2, Et K Γ1 O' c b O2 ∧ (b = true → Rn K Γ1 O2 t { D with nx := fun Γ2 O3 => ∃ m', m' < m ∧ Iv m' Γ2 O3, ct := fun Γ2 O3 => ∃ m', m' < m ∧ Iv m' Γ2 O3, bk := D.nx }) ∧ (b = false → D.nx Γ1 O2)) : Rn K Γ O (tWhile c t) D := fun F G Z σ H hf hsl E he => by
  refine ⟨fun m σ' H' => ∃ Γ' O' Z', Iv m Γ' O' ∧ Same Z Z' ∧ HFit K F G Z' O' H' ∧ SFit K Z' Γ' σ', ⟨m0, Γ, O, Z, h0, Same.refl _, hf, hsl⟩, ?_⟩
  rintro m σ1 H1 ⟨Γ1, O', Z1, iv, s1, h1, sl1⟩
  obtain ⟨b, O2, ev, k1, k2⟩ := hs m Γ1 O' iv
  refine ev F G Z1 σ1 H1 h1 sl1 _ fun Z2 H2 s2 h2 => ?_
  cases b with
  | true =>
    refine ⟨fun σ3 H3 => ∃ m', m' < m ∧ ∃ Γ' O' Z', Iv m' Γ' O' ∧ Same Z Z' ∧ HFit K F G Z' O' H3 ∧ SFit K Z' Γ' σ3, fun σ3 H3 q => q, ?_⟩
    have s3 : Same Z Z2 := s1.trans s2
    refine k1 rfl F G Z2 σ1 H2 h2 (sl1.mono s2) _ ⟨?_, ?_, ?_, ?_⟩
    · intro Γ' O'' Z' σ5 H5 ⟨m', hm, i5⟩ s5 h5 sl5
      exact ⟨m', hm, Γ', O'', Z', i5, s3.trans s5, h5, sl5⟩
    · intro w O'' v Z' H5 i5 s6 h5 r5
      exact he.rt w O'' v Z' H5 i5 (s3.trans s6) h5 r5
    · intro Γ' O'' Z' σ5 H5 i5 s6 h5 sl5
      exact he.nx Γ' O'' Z' σ5 H5 i5 (s3.trans s6) h5 sl5
    · intro Γ' O'' Z' σ5 H5 ⟨m', hm, i5⟩ s5 h5 sl5
      exact ⟨m', hm, Γ', O'', Z', i5, s3.trans s5, h5, sl5⟩
  | false => exact he.nx Γ1 O2 Z2 σ1 H2 (k2 rfl) (s1.trans s2) h2 (sl1.mono s2)
/-! the walks -/
def anyO : OH → Prop := fun _ => True
theorem walk_rp {J : It} {ws : List W} {Z : Hp} {xs : List V} {P : Hp → Prop} (hw : L2.Walk J xs.length P (YAt xs)) (hp : ∀ H, Same Z H → P H) (r : Paired (RepW K Z) ws xs) : WalkD K Z anyO J ws :=
  ⟨fun F G Z1 O1 H1 n hn s h _ => hw.goes n H1 (by rw [← Paired.length r]; exact hn) (hp H1 (s.trans h.ex)),
    fun F G Z1 O1 H1 n w x H2 e s h _ y => by
      have hn : n < ws.length := (List.getElem?_eq_some_iff.mp e).1
      obtain ⟨rfl, e2⟩ := hw.yields n H1 x H2 (by rw [← Paired.length r]; exact hn) (hp H1 (s.trans h.ex)) y
      obtain ⟨x', e3, r3⟩ := paired_get r e
      rw [e2] at e3; cases e3
      exact ⟨Z1, Same.refl _, h, r3.mono s⟩,
    fun F G Z1 O1 H1 s h _ => by rw [Paired.length r]; exact hw.stops H1 (hp H1 (s.trans h.ex))⟩
theorem ei_tup {ds : List PyData} (h : Ed K Γ O te (.dat (.tuple ds)) O1) : Ei K Γ O (iTup K te) (dats ds) anyO O1 := fun F G Z σ H hf hs R q =>
  h F G Z σ H hf hs _ fun v Z1 H1 s1 h1 r1 => by
    cases r1 with
    | @tup a xs _ hq r => exact ⟨a, rfl, ⟨xs, same_t h1.ex hq⟩, q _ Z1 H1 s1 h1 (walk_rp walk_tup (fun H s => same_t s hq) (of_rpAll r))⟩
theorem ei_lst {ds : List PyData} (h : Ed K Γ O te (.dat (.list ds)) O1) : Ei K Γ O (iList K te) (dats ds) anyO O1 := fun F G Z σ H hf hs R q =>
  h F G Z σ H hf hs _ fun v Z1 H1 s1 h1 r1 => by
    cases r1 with
    | @lst a xs _ hq r => exact ⟨a, rfl, ⟨xs, same_l h1.ex hq⟩, q _ Z1 H1 s1 h1 (walk_rp walk_list (fun H s => same_l s hq) (of_rpAll r))⟩
/-- an owned list that stands still -/
theorem ei_own {p : Addr} {ws : List W} (h : Ed K Γ O te (.own p) O1) (hk : (p, .lst ws) ∈ O1) : Ei K Γ O (iList K te) ws (fun O => (p, .lst ws) ∈ O) O1 := fun F G Z σ H hf hs R q =>
  h F G Z σ H hf hs _ fun v Z1 H1 s1 h1 r1 => by
    cases r1
    have at' : ∀ {F : Hp} {G : Addr → Prop} {Z1 H1 : Hp} {O1 : OH}, HFit K F G Z1 O1 H1 → (p, .lst ws) ∈ O1 → ∃ vs, H1 p = some (.lst vs) ∧ Paired (RepW K Z1) ws vs := fun {F G Z1 H1 O1} h1 hk => by
      obtain ⟨_, _, ho, e, r⟩ := h1.ow p _ hk
      cases ho with
      | lst vs => exact ⟨vs, e, r⟩
      | _ => exact r.elim
    obtain ⟨vs, e, r⟩ := at' h1 hk
    refine ⟨p, rfl, ⟨vs, SqL.of e⟩, q _ Z1 H1 s1 h1 ⟨?_, ?_, ?_⟩⟩
    · intro F G Z2 O2 H2 n hn s h2 c
      obtain ⟨vs2, e2, r2⟩ := at' h2 c
      exact ⟨vs2, vs2[n]'(by rw [← Paired.length r2]; exact hn), SqL.of e2, by simp [← Paired.length r2, hn]⟩
    · intro F G Z2 O2 H2 n w x H3 ew s h2 c y
      obtain ⟨vs2, e2, r2⟩ := at' h2 c
      obtain ⟨rfl, y2⟩ := y
      obtain ⟨x', e3, r3⟩ := paired_get r2 ew
      rw [y2 vs2 (SqL.of e2)] at e3; cases e3
      exact ⟨Z2, Same.refl _, h2, r3⟩
    · intro F G Z2 O2 H2 s h2 c
      obtain ⟨vs2, e2, r2⟩ := at' h2 c
      exact ⟨vs2, SqL.of e2, by rw [Paired.length r2]; exact Nat.le_refl _⟩
def rangeW (lo : Int) (n : Nat) : List W := (List.range n).map fun (k : Nat) => .dat (.int (lo + (k : Int)))
theorem walk_rng {Z : Hp} {lo : Int} {n : Nat} : WalkD K Z anyO (Itr lo n) (rangeW lo n) :=
  ⟨fun F G Z1 O1 H1 m hm s h _ => show m < n by simpa [rangeW] using hm,
    fun F G Z1 O1 H1 m w x H2 e s h _ y => by
      obtain ⟨rfl, rfl⟩ := y
      unfold rangeW at e
      rw [List.getElem?_map] at e
      have hm : m < n := by
        cases q : (List.range n)[m]? with
        | none => rw [q] at e; cases e
        | some k => exact (by simpa using (List.getElem?_eq_some_iff.mp q).1)
      rw [List.getElem?_range hm] at e
      cases e
      exact ⟨Z1, Same.refl _, h, .int _⟩,
    fun F G Z1 O1 H1 s h _ => by show n ≤ (rangeW lo n).length; simp [rangeW]⟩
theorem ei_rng1 {tr : TA} {n : Int} (h : Ea K Γ O tr [.dat (.int n)] O1) (h1 : -(2 ^ 62) ≤ n) (h2 : n < 2 ^ 62) : Ei K Γ O (iRng1 tr) (rangeW 0 n.toNat) anyO O1 := fun F G Z σ H hf hs R q =>
  h F G Z σ H hf hs _ fun vs Z1 H1 s1 g1 r1 => by
    cases r1 with
    | cons r r' =>
      cases r'
      cases r
      exact ⟨n, rfl, h1, h2, q _ Z1 H1 s1 g1 walk_rng⟩
theorem ei_rng2 {tr : TA} {m n : Int} (h : Ea K Γ O tr [.dat (.int m), .dat (.int n)] O1) (h1 : -(2 ^ 62) ≤ m ∧ m < 2 ^ 62 ∧ -(2 ^ 62) ≤ n ∧ n < 2 ^ 62) : Ei K Γ O (iRng2 tr) (rangeW m (n - m).toNat) anyO O1 := fun F G Z σ H hf hs R q =>
  h F G Z σ H hf hs _ fun vs Z1 H1 s1 g1 r1 => by
    cases r1 with
    | cons r r' =>
      cases r' with
      | cons r2 r' =>
        cases r'
        cases r
        cases r2
        exact ⟨m, n, rfl, h1, q _ Z1 H1 s1 g1 walk_rng⟩
/-! comprehensions -/
def wipeG (Γ : Gm) : List Nat → Gm
  | [] => Γ
  | i :: is => (wipeG Γ is).set i none
theorem SFit.wipes {Z : Hp} {Γ : Gm} {σ : L2.St} (h : SFit K Z Γ σ) : ∀ vs : List Nat, SFit K Z (wipeG Γ vs) (L2.wipe σ vs)
  | [] => h
  | i :: is => SFit.wipe i (h.wipes is) none
theorem set_set_none {α : Type} (l : List α) (i j : Nat) (x y : α) (h : i ≠ j) : (l.set i x).set j y = (l.set j y).set i x := List.set_comm x y h
theorem wipe_set {x : Option V} : ∀ {vs : List Nat} {σ : L2.St} {j : Nat}, j ∈ vs → L2.wipe (σ.set j x) vs = L2.wipe σ vs
  | v :: vs, σ, j, h => by
    unfold L2.wipe
    by_cases hv : j ∈ vs
    · rw [wipe_set hv]
    · rcases List.mem_cons.mp h with e | h
      · subst e
        have : ∀ (vs : List Nat), j ∉ vs → L2.wipe (σ.set j x) vs = (L2.wipe σ vs).set j x := fun vs hv => by
          induction vs with
          | nil => rfl
          | cons u us ih =>
            unfold L2.wipe
            rw [ih (fun z => hv (List.mem_cons_of_mem _ z))]
            exact List.set_comm _ _ (fun z => hv (by rw [z]; exact List.mem_cons_self))
        rw [this vs hv, List.set_set]
      · exact absurd h hv
theorem wipe_wipe {vs : List Nat} {σ : L2.St} : L2.wipe (L2.wipe σ vs) vs = L2.wipe σ vs := by
  have : ∀ (us : List Nat), (∀ u ∈ us, u ∈ vs) → L2.wipe (L2.wipe σ us) vs = L2.wipe σ vs := fun us h => by
    induction us with
    | nil => rfl
    | cons u us ih =>
      show L2.wipe ((L2.wipe σ us).set u none) vs = L2.wipe σ vs
      exact (wipe_set (h u List.mem_cons_self)).trans (ih fun v hv => h v (List.mem_cons_of_mem _ hv))
  exact this vs fun _ h => h
/-- .. the target's slots are among vs -/
def TgC (K : PySem.W.Frag) (vs : List Nat) (g : TG) (w : W) (Γ Γ' : Gm) : Prop :=
  ∀ (Z : Hp) (σ : L2.St) (H : Hp) (v : V), Same Z H → SFit K Z Γ σ → RepW K Z w v → ∀ Q : L2.St → Hp → Prop, (∀ σ', SFit K Z Γ' σ' → L2.wipe σ' vs = L2.wipe σ vs → Q σ' H) → g v σ H Q
def TgsC (K : PySem.W.Frag) (vs : List Nat) (g : TGs) (ds : List PyData) (Γ Γ' : Gm) : Prop :=
  ∀ (Z : Hp) (σ : L2.St) (H : Hp) (us : List V), Same Z H → SFit K Z Γ σ → RpAll K Z us ds → ∀ Q : L2.St → Hp → Prop, (∀ σ', SFit K Z Γ' σ' → L2.wipe σ' vs = L2.wipe σ vs → Q σ' H) → g us σ H Q
theorem tgc_name {vs : List Nat} (hj : i ∈ vs) : TgC K vs (gName i) w Γ (Γ.set i (some w)) := fun Z σ H v s hs r Q q => q _ (hs.set i r) (wipe_set hj)
theorem tgsc_nil {vs : List Nat} : TgsC K vs gNil [] Γ Γ := fun Z σ H us s hs r Q q => by cases r; exact ⟨rfl, q σ hs rfl⟩
theorem tgsc_cons {vs : List Nat} {g : TG} {gs : TGs} {ds : List PyData} {Γ1 : Gm} (h : TgC K vs g (.dat d) Γ Γ1) (hr : TgsC K vs gs ds Γ1 Γ') : TgsC K vs (gCons g gs) (d :: ds) Γ Γ' := fun Z σ H us s hs r Q q => by
  cases r with
  | cons r rr => exact ⟨_, _, rfl, h Z σ H _ s hs r _ fun σ1 hs1 e1 => hr Z σ1 H _ s hs1 rr Q fun σ2 hs2 e2 => q σ2 hs2 (e2.trans e1)⟩
theorem tgc_tup {vs : List Nat} {gs : TGs} {ds : List PyData} {n : Nat} (h : TgsC K vs gs ds Γ Γ') (hn : ds.length = n) : TgC K vs (gTup K n gs) (.dat (.tuple ds)) Γ Γ' := fun Z σ H v s hs r Q q => by
  cases r with
  | tup hq r => exact ⟨_, _, rfl, same_t s hq, by rw [r.length]; exact hn, h Z σ H _ s hs r Q q⟩
theorem en_lc {wi : TI} {g : TG} {tt : TT} {vs : List Nat} {ws acc : List W} {C : OH → Prop} (hi : Ei K Γ O wi ws C O1) (Iv : Nat → List W → OH → Prop) (h0 : Iv 0 [] O1) (hz : ws.length ≤ sizeLine) (hC : ∀ n l O' q, n ≤ ws.length → Iv n l O' → C (q :: O'))
    (hs : ∀ n w l O', ws[n]? = some w → Iv n l O' → ∃ Γ2, TgC K vs g w (wipeG Γ vs) Γ2 ∧ ∃ b O2, Et K Γ2 O' tt b O2 ∧ (b = true → ∃ y O3, Ed K Γ2 O2 te y O3 ∧ Iv (n + 1) (l ++ [y]) O3) ∧ (b = false → Iv (n + 1) l O2))
    (hd : ∀ l O', Iv ws.length l O' → l = acc ∧ O' = O2) : En K Γ O (tLc wi g tt te vs) (.lst acc) O2 := fun F G Z σ H hf hsl Q q =>
  hi F G Z σ H hf hsl _ fun J Z1 H1 s1 h1 wk Dl hD => by
    refine ⟨fun n m H' => m = ws.length - n ∧ n ≤ ws.length ∧ ∃ l O' Z', Iv n l O' ∧ l.length ≤ n ∧ Same Z1 Z' ∧ HFit K F G Z' ((Dl, .lst l) :: O') H', ⟨ws.length, by simp, Nat.zero_le _, [], O1, Z1, h0, Nat.le_refl _, Same.refl _, h1.newO hD (.nil)⟩, ?_⟩
    rintro n m H' ⟨rfl, hn, l, O', Z2, iv, hl, s2, h2⟩
    have c := hC n l O' (Dl, .lst l) hn iv
    by_cases hlt : n < ws.length
    · refine Or.inr ⟨wk.go F G Z2 _ H' n hlt s2 h2 c, fun H3 => ∃ l O' Z', Iv (n + 1) l O' ∧ l.length ≤ n + 1 ∧ Same Z1 Z' ∧ HFit K F G Z' ((Dl, .lst l) :: O') H3, fun H3 q => ⟨ws.length - (n + 1), by omega, rfl, hlt, q⟩, fun x H3 y => ?_⟩
      obtain ⟨Z3, s3, h3, r3⟩ := wk.yld F G Z2 _ H' n ws[n] x H3 (by simp [hlt]) s2 h2 c y
      obtain ⟨Γ2, tg, b, O2', et, k1, k2⟩ := hs n ws[n] l O' (by simp [hlt]) iv
      have slw : SFit K Z3 (wipeG Γ vs) (L2.wipe σ vs) := (hsl.mono ((s1.trans s2).trans s3)).wipes vs
      refine tg Z3 _ H3 x h3.ex slw r3 _ fun σ4 sl4 e4 => ⟨e4.trans wipe_wipe, ?_⟩
      refine (et.frame (A := [(Dl, .lst l)])) F G Z3 σ4 H3 h3 sl4 _ fun Z4 H4 s4 h4 => ?_
      cases b with
      | true =>
        obtain ⟨y', O3, ed, iv'⟩ := k1 rfl
        show te σ4 H4 _
        refine (ed.frame (A := [(Dl, .lst l)])) F G Z4 σ4 H4 h4 (sl4.mono s4) _ fun v Z5 H5 s5 h5 r5 => ?_
        obtain ⟨_, _, ho, e5, r6⟩ := h5.ow Dl (.lst l) List.mem_cons_self
        cases ho with
        | lst us =>
          have r6 : Paired (RepW K Z5) l us := r6
          have hle := Paired.length r6
          refine ⟨us, e5, by omega, l ++ [y'], O3, Z5, iv', by simp; omega, ((s2.trans s3).trans s4).trans s5, ?_⟩
          exact HFit.write (k := 0) (mo' := .lst (l ++ [y'])) h5 rfl (paired_append r6 (.cons r5 .nil))
        | _ => exact r6.elim
      | false =>
        show ∃ l O' Z', _
        exact ⟨l, O2', Z4, k2 rfl, by omega, (s2.trans s3).trans s4, h4⟩
    · have e : n = ws.length := by omega
      subst e
      obtain ⟨rfl, rfl⟩ := hd l O' iv
      exact Or.inl ⟨wk.stop F G Z2 _ H' s2 h2 c, q Dl Z2 H' (s1.trans s2) h2⟩
/-- each item of data goes to data, nothing is changed -/
theorem en_map {wi : TI} {g : TG} {vs : List Nat} {ds : List PyData} {f : PyData → PyData} {C : OH → Prop} (hi : Ei K Γ O wi (dats ds) C O1) (hz : ds.length ≤ sizeLine) (hC : ∀ q, C (q :: O1))
    (hs : ∀ (n : Nat) (d : PyData), ds[n]? = some d → ∃ Γ2, TgC K vs g (.dat d) (wipeG Γ vs) Γ2 ∧ Ed K Γ2 O1 te (.dat (f d)) O1) : En K Γ O (tLc wi g tYes te vs) (.lst (dats (ds.map f))) O1 := by
  refine en_lc hi (fun n l O' => l = dats ((ds.take n).map f) ∧ O' = O1) ⟨rfl, rfl⟩ (by simpa [dats] using hz) (fun n l O' q _ h => by rw [h.2]; exact hC q) (fun n w l O' e h => ?_) (fun l O' h => ?_)
  · obtain ⟨rfl, rfl⟩ := h
    unfold dats at e
    rw [List.getElem?_map] at e
    cases e2 : ds[n]? with
    | none => rw [e2] at e; cases e
    | some d =>
      rw [e2] at e
      cases e
      obtain ⟨Γ2, tg, ed⟩ := hs n d e2
      refine ⟨Γ2, tg, true, _, et_yes, fun _ => ⟨_, _, ed, ?_, rfl⟩, fun z => Bool.noConfusion z⟩
      rw [List.take_add_one, e2]
      simp [dats]
  · obtain ⟨rfl, rfl⟩ := h
    exact ⟨by rw [show (dats ds).length = ds.length by simp [dats], List.take_length], rfl⟩
end
end TB

end
-- TBG
section
set_option Elab.async false
set_option linter.all false
set_option maxRecDepth 100000
set_option maxHeartbeats 2000000
/-! TBG: what a def promises where no repr is under way around it (A.guards = some []). -/
namespace TB
open PySem L2
open PySem.Spec PyProof.Rows
structure FnG (P : Program) (w : World) (K : PySem.W.Frag) (mg : Str → Option Value) (base : Heap) (CX : CXT) (k : Nat) (f : Addr) (fd : FuncData) (ps : List Str) (sp : Sp) : Prop where
  len : ∀ vs H Q E, sp vs H Q E → vs.length = ps.length
  go : ∀ (A : Around) (outer : List Env) (s : Shared) (H : Hp) (args : Args) (us : List Value) (vs : List V) (Q : VK) (E : XK), Room k A → A.guards = some [] → Env0 P w K mg base A outer s H → BindsTo s fd args (ps.zip us) → Vals vs us → sp vs H Q E → codeAny (model P w) A (.call (.ref f) args) (CR CX outer P w H s Q E) s
section
variable {P : Program} {w : World} {K : PySem.W.Frag} {mg : Str → Option Value} {base : Heap} {CX : CXT} {k : Nat} {f : Addr} {fd : FuncData} {ps : List Str} {sp : Sp}
theorem FnG.mono {j : Nat} (F : FnG P w K mg base CX j f fd ps sp) (h : j ≤ k) : FnG P w K mg base CX k f fd ps sp := ⟨F.len, fun A outer s H args us vs Q E hr => F.go A outer s H args us vs Q E (hr.mono h)⟩
end
section
variable {X : Cx} {CX : CXT} {k n : Nat} {f : Addr} {fd : FuncData} {ps ks : List Str} {sp : Sp} {dvs : List V} {ds : List Value} {E : XK} {x : Str} {p pos : Pos} {e : Expr} {es : List Expr} {kws : List Keyword} {t tk : TA} {g : List Value → List Value → List Value} {gV : List V → List V → List V}
/-- behind the callee's end -/
theorem endG {pins : List (Addr × Obj)} {σ : L2.St} {H : Hp} {s s' : Shared} {Q : VK} (hx : Passes CX X E) (I : Inv X pins σ H s) {r : Result} (hq : CR CX X.stack X.prog X.w H s Q E r s') : callEnd (EP X pins σ Q) X.xe r s' :=
  match r, hq with
  | .error z, hq => hx pins σ H s z s' I hq
  | .ok (.ret _), hq => I.after hq
  | .ok .next, hq => hq.elim
  | .ok .brk, hq => hq.elim
  | .ok .cont, hq => hq.elim
theorem goG {pins : List (Addr × Obj)} {σ : L2.St} {H : Hp} {s : Shared} {Q : VK} {us all : List Value} {kw : List (Str × Value)} {vs : List V} (F : FnG X.prog X.w X.K X.mg X.base CX k f fd ps sp) (hr : Room k X.A) (hG : X.A.guards = some []) (hx : Passes CX X E) (I : Inv X pins σ H s)
    (hb : BindsTo s fd ⟨us, kw⟩ (ps.zip all)) (r : Vals vs all) (h : sp vs H Q E) : wpAny (model X.prog X.w) X.A (call (.ref f) us kw) (EP X pins σ Q) X.xe s :=
  wpAny_call (codeAny_mono (F.go X.A X.stack s H ⟨us, kw⟩ all vs Q E hr hG I.env0 hb r h) fun _ _ hq => endG hx I hq)
theorem pe_callG (F : FnG X.prog X.w X.K X.mg X.base CX k f fd ps sp) (hr : Room k X.A) (hG : X.A.guards = some []) (hg : Gl X x) (hm : X.mg x = some (.ref f)) (hk : PySem.W.keepIn X.K (.ref f) = true) (hb : Binds X.K fd ps ds) (hd : Vals dvs ds) (hx : Passes CX X E)
    (ha : PA X (e :: es) t) (hdb : (x == ("__debug__" : Str)) = false) (he : starEach (e :: es) X.env = (false, eval e X.env) :: starEach es X.env) (hpl : (backTo pos (starEach es X.env)).any (·.1) = false) : PE X (.Call (.Name x p) (e :: es) [] pos) (tCall sp dvs E t) := by
  constructor
  intro pins s σ H Q I h
  apply wpAny_Call_Name_kw
  refine ld_glob I hg hm (PySem.W.callWith_K (h₀ := X.base) I.ok.mod.kin hk (thn (ha.run pos pins s σ H _ I h) fun us s1 ⟨vs, H1, I1, r, q⟩ => ⟨I1.kIn, ?_⟩) he hpl) hdb
  have rr := r.append hd
  exact goG F hr hG hx I1 (hb s1 us I1.kIn (by rw [← rr.length]; exact F.len _ _ _ _ q)) rr q
theorem pe_callG0 (F : FnG X.prog X.w X.K X.mg X.base CX k f fd ps sp) (hr : Room k X.A) (hG : X.A.guards = some []) (hg : Gl X x) (hm : X.mg x = some (.ref f)) (hk : PySem.W.keepIn X.K (.ref f) = true) (hb : Binds X.K fd ps ds) (hd : Vals dvs ds) (hx : Passes CX X E)
    (hdb : (x == ("__debug__" : Str)) = false) : PE X (.Call (.Name x p) [] [] pos) (tCall sp dvs E tNil) := by
  constructor
  intro pins s σ H Q I h
  apply wpAny_Call_Name_kw
  exact ld_glob I hg hm (PySem.W.callWith_K0 I.kIn hk (goG F hr hG hx I (hb s [] I.kIn (by rw [List.nil_append, ← hd.length]; exact F.len _ _ _ _ h)) hd h)) hdb
theorem pe_callGN (F : FnG X.prog X.w X.K X.mg X.base CX k f fd ps sp) (hr : Room k X.A) (hG : X.A.guards = some []) (hg : Gl X x) (hm : X.mg x = some (.ref f)) (hk : PySem.W.keepIn X.K (.ref f) = true) (hb : KBn X.K fd ps n ks g gV) (hx : Passes CX X E)
    (ha : PA X (e :: es) t) (hkw : PK X kws tk) (hall : (backToKw pos (keywordEach kws X.env)).all (·.1.isSome) = true) (hks : (backToKw pos (keywordEach kws X.env)).filterMap (·.1) = ks) (hdb : (x == ("__debug__" : Str)) = false) (he : starEach (e :: es) X.env = (false, eval e X.env) :: starEach es X.env)
    (hpl : ((backTo pos (starEach (e :: es) X.env)).any (·.1) || (backToKw pos (keywordEach kws X.env)).any (·.1.isNone)) = false) : PE X (.Call (.Name x p) (e :: es) kws pos) (tCallN n ks.length sp gV E t tk) := by
  constructor
  intro pins s σ H Q I h
  apply wpAny_Call_Name_kw
  refine ld_glob I hg hm (PySem.W.callWith_KW (h₀ := X.base) I.ok.mod.kin hk hall (thn (ha.run pos pins s σ H _ I h) fun us s1 ⟨vs, H1, I1, r, q⟩ => thn (hkw.run pos pins s1 σ H1 _ I1 q) fun ws s2 ⟨zs, H2, I2, rz, l1, l2, q2⟩ => ⟨I2.kIn, ?_⟩) hpl he) hdb
  rw [hks]
  exact goG F hr hG hx I2 (hb.to s2 us ws I2.kIn (r.length.symm.trans l1) (rz.length.symm.trans l2)) (hb.rel r rz) q2
end
/-! ### a def by its body -/
section
variable {P : Program} {w : World} {K : PySem.W.Frag} {mg : Str → Option Value} {base : Heap} {x qual : Str} {params : Arguments} {body : List Stmt} {scope : Scope} {dvs : List V} {kws : List (Str × V)} {f : Addr} {fd : FuncData}
theorem FunD.okG {CX : CXT} {N ps : List Str} {k : Nat} {sp : Sp} (F : FunD K x qual params body scope dvs kws f fd) (S : FnScope N ps scope) (len : ∀ vs H Q E, sp vs H Q E → vs.length = ps.length)
    (hbody : ∀ (cdv : Value) (A : Around) (outer : List Env) (s : Shared) (H : Hp) (vs : List V) (Q : VK) (E : XK), A.guards = some [] → Room k (A.deeper (envOfC qual scope s.heap.objs.size f cdv)) → sp vs H Q E →
      ∃ t, PSs (cxOf CX P w K mg base N qual scope f cdv A outer s H E) body t ∧ t { nx := fun _ H' => Q .non H', rt := Q } (start N vs) H) : FnG P w K mg base CX (k + 1) f fd ps sp := by
  obtain ⟨oc, od, dV, kV, doc, pm, an, cdv, ct, osl, rfl, lk, hcd, _, _⟩ := F.ex
  refine ⟨len, fun A outer s H args us vs Q E hr hG e0 hb r hsp => ?_⟩
  have KX : K.In s.heap := e0.mod.kin.keeps fun b _ e => (e0.bs b _ e).1
  refine codeAny_call_function hr.depth (KX _ _ lk) rfl S.co S.gen rfl (PySem.W.codeRec_of KX hcd) (hb _ _ _ _ (wpAny_newFunctionEnv_cells S.kind (fun y hy => ?_) fun env he s1 z => ?_))
  · exact (S.par _ (List.of_mem_zip hy).1).imp id fun q => ⟨q, PySem.W.cellsFrom_some _ _ _ (.inl q)⟩
  · subst he
    obtain ⟨t, ht, hq⟩ := hbody cdv A outer s H vs Q E hG (hr.deeper _) hsp
    have lim : s.heap.NoLimit := e0.mod.nolimit.keeps fun b _ e => (e0.bs b _ e).1
    refine ⟨lim.keeps z.toInCall.keep, codeAny_func (wpAny_mono (ht.run [] s1 (start N vs) H _ (inv_start S hr.hd e0 (len _ _ _ _ hsp) r z) hq) (fun fl s' hs => ?_) fun _ _ hs => hs)⟩
    match fl, hs with
    | .ret u, ⟨v, σ', H', J, rv, q⟩ => exact ⟨v, H', J.os, J.bare, J.base, J.hok, rv, q⟩
    | .next, ⟨σ', H', J, q⟩ => exact ⟨V.non, H', J.os, J.bare, J.base, J.hok, rfl, q⟩
    | .brk, ⟨_, _, _, q⟩ => exact q.elim
    | .cont, ⟨_, _, _, q⟩ => exact q.elim
end
/-! ### the law itself -/
theorem law_callG {P : Program} {w : World} {K : PySem.W.Frag} {mg mb : Str → Option Value} {CX : CXT} {k : Nat} {fa a : Addr} {fd : FuncData} {x : Str} {sp : Sp} {s₁ : Shared} {vs : List Value} {ns : List Int} (KX : K.In s₁.heap) (hns : s₁.heap.Ns mainGlobals mg) (hb : s₁.heap.Ns builtinsNs mb)
    (hbb : ∀ x : Str, x ≠ "__name__" → mb x = bootBuiltins x) (hlim : s₁.heap.NoLimit) (hg : s₁.gens = #[]) (ha : s₁.heap.get? a = some { cls := .type "list", data := .seq vs.toArray }) (hi : IntsAre vs ns) (hl : ns.length ≤ sizeLine) (hr : Room k callerA) (F : ∀ base : Heap, FnG P w K mg base CX k fa fd [x] sp)
    (hbind : ∀ (s : Shared) (u : Value), BindsTo s fd ⟨[u], []⟩ [(x, u)]) (hsp : ∀ H : Hp, Only H → SqL K H a (ns.map V.int) → sp [.ref a] H (fun v _ => v = .bl true) fun _ _ _ => False) (hCX : ∀ H e s', CX [] H s₁ (fun _ _ _ => False) e s' → False) :
    codeAny (model P w) callerA (.call (.ref fa) ⟨[.ref a], []⟩) (fun r s' => r = .ok (.ret (.bool true)) ∧ OldK s₁.heap s'.heap ∧ s'.os = s₁.os ∧ AllBare s'.gens) s₁ := by
  have rv := vals_ints hi
  have lenV := hi.length
  have core : ∀ H : Hp, Only H → SqL K H a (ns.map V.int) → HOk P w H s₁.heap → (∀ b, H b ≠ none → b = a) → (H a ≠ none → K.lookup a = none) → codeAny (model P w) callerA (.call (.ref fa) ⟨[.ref a], []⟩) (fun r s' => r = .ok (.ret (.bool true)) ∧ OldK s₁.heap s'.heap ∧ s'.os = s₁.os ∧ AllBare s'.gens) s₁ := by
    intro H hO hS hok hA hK
    have tr : ∀ b, H b ≠ none → b = a ∧ K.lookup b = none := fun b hb => by
      have e := hA b hb
      subst e
      exact ⟨rfl, hK hb⟩
    have none_of : ∀ b, (H b ≠ none → False) → H b = none := fun b h => by
      cases q : H b with
      | none => rfl
      | some u => exact (h (by simp [q])).elim
    have nsK : ∀ {b : Addr} {m : Str → Option Value}, s₁.heap.Ns b m → (hidT s₁.heap H).Ns b m := fun {b m} ⟨o, es, ep, e, d, r⟩ => ⟨o, es, ep, hidT_get e (none_of b fun hb => by
      rw [(tr b hb).1, ha] at e
      cases e
      cases d), d, r⟩
    have hKb : K.In (hidT s₁.heap H) := fun b o e => hidT_get (KX b o e) (none_of b fun hb => by rw [(tr b hb).2] at e; cases e)
    have hM : Mod K mg (hidT s₁.heap H) := ⟨hKb, nsK hns, ⟨mb, nsK hb, hbb⟩, hlim.elim fun mc h => ⟨mc, nsK h.1, h.2⟩⟩
    have e0 : Env0 P w K mg (hidT s₁.heap H) callerA [] s₁ H := ⟨rfl, hM, fun _ _ e => of_hidT e, Nat.le_of_eq (hidT_size _ _), trivial, fun b hb => (by cases hb), hok, .of_eq hg⟩
    refine codeAny_mono ((F _).go callerA [] s₁ H ⟨[.ref a], []⟩ [.ref a] [.ref a] _ _ hr rfl e0 (hbind s₁ (.ref a)) (.cons rfl .nil) (hsp H hO hS)) fun r s' h => ?_
    match r, h with
    | .error e, h => exact (hCX H e s' h).elim
    | .ok .next, h => exact h.elim
    | .ok .brk, h => exact h.elim
    | .ok .cont, h => exact h.elim
    | .ok (.ret u), ⟨v, H', os, bare, un, hok', r', q⟩ =>
      cases (show v = .bl true from q)
      cases (show u = Value.bool true from r')
      refine ⟨rfl, OldK.of_keep fun b o e => ?_, os, bare⟩
      rcases hO b with z | ⟨ob, xs, z⟩
      · exact un.keep b o e z (by intro y; cases y) (by simp)
      · have e1 := (hok b _ z).1
        have e2 := (hok' b _ (un.frzs b ob _ z)).1
        rw [e] at e1
        cases e1
        exact e2
  by_cases hk : K.lookup a = none
  · refine core (fun b => if b = a then some (.frz { cls := .type "list", data := .seq vs.toArray } (.lst (ns.map V.int))) else none) (fun b => ?_) (.inl (.inr ⟨_, if_pos rfl⟩)) (fun b u z => ?_) (fun b z => ?_) fun _ => hk
    · by_cases hba : b = a
      · exact .inr ⟨_, _, if_pos hba⟩
      · exact .inl (if_neg hba)
    · by_cases hba : b = a
      · subst hba
        have z' := (if_pos rfl).symm.trans z
        cases z'
        exact ⟨ha, by simpa using hl, vs, _, rv, ha⟩
      · cases (if_neg hba).symm.trans z
    · exact Classical.byContradiction fun hba => z (if_neg hba)
  · obtain ⟨o, hk⟩ := Option.ne_none_iff_exists'.mp hk
    have e := KX a o hk
    rw [ha] at e
    cases e
    exact core (fun _ => none) (fun _ => .inl rfl) (.inr ⟨_, vs.toArray, _, hk, rfl, rfl, rfl, by simpa [lenV] using hl, by simpa using rv⟩) (fun b u z => by cases z) (fun b z => absurd rfl z) fun z => absurd rfl z
theorem walkG {l : PySem.W.OpenLaw} {n k : Nat} {q : Program} {loose : List Str} {XP : (Str → Option Value) → Heap → Prop} {YP : World → Heap → Prop} {d : DefRec} {K : Params → PySem.W.Frag} {CX : World → CXT} {sp : World → Sp} {x : Str} (hn : l.most = some n) (hn2 : n ≤ sizeLine) (hdf : d.params.defaults = []) (hr : Room k callerA)
    (hY : ∀ (w : World) (h : Heap), YP w h → (K w.params).In h) (F : ∀ (w : World) (mg : Str → Option Value) (fa : Addr) (h : Heap), (K w.params).In h → h.Ns mainGlobals mg → mg d.name = some (.ref fa) → ∃ fd : FuncData, (∀ (s : Shared) (u : Value), BindsTo s fd ⟨[u], []⟩ [(x, u)]) ∧ ∀ base : Heap, FnG l.prog w (K w.params) mg base (CX w) k fa fd [x] (sp w))
    (hsp : ∀ (w : World) (H : Hp) (a : Addr) (ns : List Int), ns.length ≤ n → (∀ z ∈ ns, Builtin.Int.intBits z ≤ 1048576) → Only H → SqL (K w.params) H a (ns.map V.int) → sp w [.ref a] H (fun v _ => v = .bl true) fun _ _ _ => False) (hCX : ∀ (w : World) (H : Hp) (s : Shared) (e : Value) (s' : Shared), CX w [] H s (fun _ _ _ => False) e s' → False) :
    PySem.W.WalkO q loose XP YP l.row.toRowW d [] (fun f vs => PySem.call f vs) := by
  refine Att.attach_callB hn hdf fun w s₀ s₁ mg mb fa o pm cd doc a vs ns G Y ho hd hcd hmg hobj hints hlen hbits hg => ?_
  obtain ⟨fd, hb, hF⟩ := F w mg fa _ (hY w _ Y) G.T.g hmg
  exact law_callG (hY w _ Y) G.T.g G.T.b G.T.builtins G.T.nolimit hg hobj hints (Nat.le_trans hlen hn2) hr hF hb (hsp w · a ns hlen hbits) fun H e s' => hCX w H s₁ e s'
end TB

end
-- TB3
section
set_option Elab.async false
set_option linter.all false
set_option maxRecDepth 100000
set_option maxHeartbeats 2000000
/-! TB3: the context of a def's body with its parts by name, and the rules over it. -/
namespace TB
open PySem L2
abbrev GK (sc : Scope) (x : Str) : Prop := sc.names.lookup x = some .globalImplicit
structure Ctx (X : Cx) (P : Program) (w : World) (K : PySem.W.Frag) (mg : Str → Option Value) (base : Heap) (N : List Str) (sc : Scope) (lv : Nat) : Prop where
  hP : X.prog = P
  hw : X.w = w
  hK : X.K = K
  hmg : X.mg = mg
  hb : X.base = base
  hN : X.N = N
  nd : N.Nodup
  hsc : X.env.scope = sc
  calm : X.calm = true
  room : Room lv X.A
  never : X.xe = fun _ _ => False
  grd : X.A.guards = some []
/-- .. of a def -/
structure FCtx (X : Cx) (P : Program) (w : World) (K : PySem.W.Frag) (mg : Str → Option Value) (base : Heap) (N : List Str) (sc : Scope) (lv : Nat) : Prop extends Ctx X P w K mg base N sc lv where
  fn : ∀ x, X.fn x = true
section
variable {X : Cx} {P : Program} {w : World} {K : PySem.W.Frag} {mg : Str → Option Value} {base : Heap} {N : List Str} {sc : Scope} {lv : Nat}
theorem Ctx.hu (C : Ctx X P w K mg base N sc lv) : X.A.units + 64 < cLine := C.room.units
theorem Ctx.pass (C : Ctx X P w K mg base N sc lv) : PassesOwn (model X.prog X.w) X.A X.env X.xe := by rw [C.never]; exact PassesOwn.never
theorem Ctx.gl (C : Ctx X P w K mg base N sc lv) {x : Str} (h : GK sc x) : Gl X x := by
  unfold Gl Env.kindOf
  rw [C.hsc]; exact h
theorem Ctx.blk (C : Ctx X P w K mg base N sc lv) (s : Shared) (H : Hp) (scope : Scope) (c : Addr) (cl : List (Str × Addr)) (fp : List Addr) : Ctx (X.blk s H scope (compEnvC scope cl c X.env) fp) P w K mg base N (relS scope sc) lv := by
  obtain ⟨h1, h2, h3, h4, h5, h6, h7, h8, h9, h10, h11, h12⟩ := C
  exact ⟨h1, h2, h3, h4, h5, h6, h7, by rw [← h8]; rfl, h9, h10, rfl, h12⟩
variable {a b e : Expr} {es : List Expr} {ta tb te : TE} {tr : TA} {pos : Pos}
theorem q_var (C : Ctx X P w K mg base N sc lv) (i : Nat) {x : Str} (h : N[i]? = some x := by rfl) (hv : Vis sc x := by first | exact Or.inl rfl | exact Or.inr (Or.inl rfl) | exact Or.inr (Or.inr rfl))
    (hd : (x == ("__debug__" : Str)) = false := by decide) (hcd : (x == ("__classdict__" : Str)) = false := by decide) : PE X (.Name x pos) (tVar i) :=
  pe_var (by rw [C.hN]; exact h) (by rw [C.hsc]; exact hv) hd hcd
/-- a constant of the module -/
theorem q_glob (C : Ctx X P w K mg base N sc lv) {x : Str} {v : V} {u : Value} (hm : mg x = some u) (r : RelV v u) (hg : GK sc x := by rfl) (hd : (x == ("__debug__" : Str)) = false := by decide) : PE X (.Name x pos) (tC v) :=
  pe_glob (C.gl hg) (by rw [C.hmg]; exact hm) r hd
/-- a built-in class as a value -/
theorem q_ty (C : Ctx X P w K mg base N sc lv) {x : Str} {T : String} (hm : mg x = none) (hv : bootBuiltins x = some (.type T)) (hg : GK sc x := by rfl) (hn : x ≠ "__name__" := by decide) (hd : (x == ("__debug__" : Str)) = false := by decide) : PE X (.Name x pos) (tC (.ty T)) :=
  pe_bltn (C.gl hg) (by rw [C.hmg]; exact hm) hv rfl hn hd
theorem q_eq (C : Ctx X P w K mg base N sc lv) (ha : PE X a ta) (hb : PE X b tb) : PE X (.Compare a [.Eq] [b] pos) (tOp (rEqE K) ta tb) := by
  have := C.hK; subst this; exact pe_cmpR ((op_eqD C.hu).or op_eq) ha hb (nomark _)
theorem q_ne (C : Ctx X P w K mg base N sc lv) (ha : PE X a ta) (hb : PE X b tb) : PE X (.Compare a [.NotEq] [b] pos) (tOp (rNeE K) ta tb) := by
  have := C.hK; subst this; exact pe_cmpR ((op_neD C.hu).or op_ne) ha hb (nomark _)
theorem qt_eq (C : Ctx X P w K mg base N sc lv) (ha : PE X a ta) (hb : PE X b tb) : PT X (.Compare a [.Eq] [b] pos) (tTest (tOp (rEqE K) ta tb)) := by
  have := C.hK; subst this; exact pt_cmpR ((op_eqD C.hu).or op_eq) ha hb (nomark _)
theorem qt_ne (C : Ctx X P w K mg base N sc lv) (ha : PE X a ta) (hb : PE X b tb) : PT X (.Compare a [.NotEq] [b] pos) (tTest (tOp (rNeE K) ta tb)) := by
  have := C.hK; subst this; exact pt_cmpR ((op_neD C.hu).or op_ne) ha hb (nomark _)
theorem q_ix (C : Ctx X P w K mg base N sc lv) (ha : PE X a ta) (hb : PE X b tb) (hs : PlainIx b := by exact fun _ _ => rfl) : PE X (.Subscript a b pos) (tOp (rIx K) ta tb) := by
  have := C.hK; subst this; exact pe_ix ix_seq ha hb hs
/-- a def by its name -/
structure Def (P : Program) (w : World) (K : PySem.W.Frag) (mg : Str → Option Value) (base : Heap) (lv : Nat) (x : Str) (n : Nat) (dvs : List V) (sp : Sp) : Prop where
  ex : ∃ (f : Addr) (fd : FuncData) (ps : List Str) (ds : List Value), FnG P w K mg base CX0 lv f fd ps sp ∧ mg x = some (.ref f) ∧ PySem.W.keepIn K (.ref f) = true ∧ Binds K fd ps ds ∧ Vals dvs ds
theorem q_call (C : Ctx X P w K mg base N sc lv) {x : Str} {l n : Nat} {dvs : List V} {sp : Sp} {p : Pos} (D : Def P w K mg base l x n dvs sp) (ha : PA X (e :: es) tr) (hl : l ≤ lv := by decide) (hg : GK sc x := by rfl)
    (hdb : (x == ("__debug__" : Str)) = false := by decide) (he : starEach (e :: es) X.env = (false, eval e X.env) :: starEach es X.env := by rfl) (hpl : (backTo pos (starEach es X.env)).any (·.1) = false := by rfl) :
    PE X (.Call (.Name x p) (e :: es) [] pos) (tCall sp dvs E0 tr) := by
  obtain ⟨h1, h2, h3, h4, h5, h6, h7, h8, h9, h10, h11, h12⟩ := C
  subst h1 h2 h3 h4 h5
  obtain ⟨f, fd, ps, ds, F, m, kp, b, v⟩ := D.ex
  exact pe_callG F (h10.mono hl) h12 (by unfold Gl Env.kindOf; rw [h8]; exact hg) m kp b v (E := E0) (fun _ _ _ _ _ _ _ z => z.elim) ha (hdb) (he) (hpl)
theorem q_call0 (C : Ctx X P w K mg base N sc lv) {x : Str} {l n : Nat} {dvs : List V} {sp : Sp} {p : Pos} (D : Def P w K mg base l x n dvs sp) (hl : l ≤ lv := by decide) (hg : GK sc x := by rfl)
    (hdb : (x == ("__debug__" : Str)) = false := by decide) :
    PE X (.Call (.Name x p) [] [] pos) (tCall sp dvs E0 tNil) := by
  obtain ⟨h1, h2, h3, h4, h5, h6, h7, h8, h9, h10, h11, h12⟩ := C
  subst h1 h2 h3 h4 h5
  obtain ⟨f, fd, ps, ds, F, m, kp, b, v⟩ := D.ex
  exact pe_callG0 F (h10.mono hl) h12 (by unfold Gl Env.kindOf; rw [h8]; exact hg) m kp b v (E := E0) (fun _ _ _ _ _ _ _ z => z.elim) hdb
/-- a def called with keywords -/
structure DefN (P : Program) (w : World) (K : PySem.W.Frag) (mg : Str → Option Value) (base : Heap) (lv : Nat) (x : Str) (n : Nat) (ks : List Str) (gV : List V → List V → List V) (sp : Sp) : Prop where
  ex : ∃ (f : Addr) (fd : FuncData) (ps : List Str) (g : List Value → List Value → List Value), FnG P w K mg base CX0 lv f fd ps sp ∧ mg x = some (.ref f) ∧ PySem.W.keepIn K (.ref f) = true ∧ KBn K fd ps n ks g gV
theorem q_callN (C : Ctx X P w K mg base N sc lv) {x : Str} {l n : Nat} {ks : List Str} {gV : List V → List V → List V} {sp : Sp} {kws : List Keyword} {tk : TA} {p : Pos} (D : DefN P w K mg base l x n ks gV sp) (ha : PA X (e :: es) tr) (hkw : PK X kws tk) (hl : l ≤ lv := by decide) (hg : GK sc x := by rfl)
    (hall : (backToKw pos (keywordEach kws X.env)).all (·.1.isSome) = true := by rfl) (hks : (backToKw pos (keywordEach kws X.env)).filterMap (·.1) = ks := by rfl)
    (hdb : (x == ("__debug__" : Str)) = false := by decide) (he : starEach (e :: es) X.env = (false, eval e X.env) :: starEach es X.env := by rfl)
    (hpl : ((backTo pos (starEach (e :: es) X.env)).any (·.1) || (backToKw pos (keywordEach kws X.env)).any (·.1.isNone)) = false := by rfl) :
    PE X (.Call (.Name x p) (e :: es) kws pos) (tCallN n ks.length sp gV E0 tr tk) := by
  obtain ⟨h1, h2, h3, h4, h5, h6, h7, h8, h9, h10, h11, h12⟩ := C
  subst h1 h2 h3 h4 h5
  obtain ⟨f, fd, ps, g, F, m, kp, b⟩ := D.ex
  exact pe_callGN F (h10.mono hl) h12 (by unfold Gl Env.kindOf; rw [h8]; exact hg) m kp b (E := E0) (fun _ _ _ _ _ _ _ z => z.elim) ha hkw hall hks hdb he hpl
/-- keywords alone -/
def tCallN0 (m : Nat) (sp : Sp) (gV : List V → List V → List V) (E : XK) (tk : TA) : TE := fun σ H Q => tk σ H fun zs H2 => zs.length = m ∧ sp (gV [] zs) H2 Q E
theorem q_callN0 (C : Ctx X P w K mg base N sc lv) {x : Str} {l : Nat} {ks : List Str} {gV : List V → List V → List V} {sp : Sp} {kws : List Keyword} {tk : TA} {p : Pos} (D : DefN P w K mg base l x 0 ks gV sp) (hkw : PK X kws tk) (hl : l ≤ lv := by decide) (hg : GK sc x := by rfl)
    (hall : (backToKw pos (keywordEach kws X.env)).all (·.1.isSome) = true := by rfl) (hks : (backToKw pos (keywordEach kws X.env)).filterMap (·.1) = ks := by rfl)
    (hdb : (x == ("__debug__" : Str)) = false := by decide)
    (hpl : ((backTo pos (starEach [] X.env)).any (·.1) || (backToKw pos (keywordEach kws X.env)).any (·.1.isNone)) = false := by rfl) :
    PE X (.Call (.Name x p) [] kws pos) (tCallN0 ks.length sp gV E0 tk) := by
  obtain ⟨h1, h2, h3, h4, h5, h6, h7, h8, h9, h10, h11, h12⟩ := C
  subst h1 h2 h3 h4 h5
  obtain ⟨f, fd, ps, g, F, m, kp, b⟩ := D.ex
  refine ⟨fun pins s σ H Q I h => ?_⟩
  refine wpAny_Call_Name_kw (ld_glob I (by unfold Gl Env.kindOf; rw [h8]; exact hg) m ?_ hdb)
  refine PySem.W.callWith_KW0 (h₀ := X.base) I.ok.mod.kin kp hall (thn (hkw.run pos pins s σ H _ I h) fun ws s2 ⟨zs, H2, I2, rz, l2, q2⟩ => ⟨I2.kIn, ?_⟩) hpl
  rw [hks]
  exact goG F (h10.mono hl) h12 (E := E0) (fun _ _ _ _ _ _ _ z => z.elim) I2 (b.to s2 [] ws I2.kIn rfl (rz.length.symm.trans l2)) (b.rel .nil rz) q2
end

section
variable {K : PySem.W.Frag} {Γ : Gm} {O O1 O2 O3 : OH} {ta tb te : TE} {w : W} {tr tk : TA} {ws zs us : List W} {ds es : List PyData} {d : PyData}
theorem ed_callD {R : List PyData → PyData → Prop} {E : XK} {dvs : List V} {es : List PyData} (ha : Ea K Γ O tr (dats ds) O1) (hd : ∀ Z, RpAll K Z dvs es) (hR : R (ds ++ es) d) : Ed K Γ O (tCall (spR K (pure1 R)) dvs E tr) (.dat d) O1 := fun F G Z σ H hf hs Q q =>
  ha F G Z σ H hf hs _ fun vs Z1 H1 s1 h1 r1 => by
    have h1' : HFit K F G Z1 (O1 ++ []) H1 := by rw [List.append_nil]; exact h1
    refine ⟨_, _, Z1, [], dats (ds ++ es), .dat d, [], h1'.aside, of_rpAll ((rpAll_of r1).append (hd Z1)), ⟨rfl, rfl, _, _, rfl, rfl, hR⟩, fun v Z2 H2 s2 h2 r2 => q v Z2 H2 (s1.trans s2) ?_ r2⟩
    have := h1'.back s2 h2
    rw [List.append_nil] at this
    exact this
theorem ed_callN {R : List PyData → PyData → Prop} {E : XK} {n m : Nat} {gV : List V → List V → List V} {fs : List PyData} (ha : Ea K Γ O tr (dats ds) O1) (hk : Ea K Γ O1 tk (dats es) O2) (hn : ds.length = n) (hm : es.length = m)
    (hg : ∀ Z vs zs, RpAll K Z vs ds → RpAll K Z zs es → RpAll K Z (gV vs zs) fs) (hR : R fs d) : Ed K Γ O (tCallN n m (spR K (pure1 R)) gV E tr tk) (.dat d) O2 := fun F G Z σ H hf hs Q q =>
  ha F G Z σ H hf hs _ fun vs Z1 H1 s1 h1 r1 => hk F G Z1 σ H1 h1 (hs.mono s1) _ fun zs Z2 H2 s2 h2 r2 => by
    have h2' : HFit K F G Z2 (O2 ++ []) H2 := by rw [List.append_nil]; exact h2
    have r1' := (rpAll_of r1).mono s2
    have r2' := rpAll_of r2
    refine ⟨by rw [r1'.length]; exact hn, by rw [r2'.length]; exact hm, _, _, Z2, [], dats fs, .dat d, [], h2'.aside, of_rpAll (hg Z2 vs zs r1' r2'), ⟨rfl, rfl, _, _, rfl, rfl, hR⟩, fun v Z3 H3 s3 h3 r3 => q v Z3 H3 ((s1.trans s2).trans s3) ?_ r3⟩
    have := h2'.back s3 h3
    rw [List.append_nil] at this
    exact this
theorem ed_callN0 {R : List PyData → PyData → Prop} {E : XK} {m : Nat} {gV : List V → List V → List V} {fs : List PyData} (hk : Ea K Γ O tk (dats es) O1) (hm : es.length = m)
    (hg : ∀ Z zs, RpAll K Z zs es → RpAll K Z (gV [] zs) fs) (hR : R fs d) : Ed K Γ O (tCallN0 m (spR K (pure1 R)) gV E tk) (.dat d) O1 := fun F G Z σ H hf hs Q q =>
  hk F G Z σ H hf hs _ fun zs Z2 H2 s2 h2 r2 => by
    have h2' : HFit K F G Z2 (O1 ++ []) H2 := by rw [List.append_nil]; exact h2
    have r2' := rpAll_of r2
    refine ⟨by rw [r2'.length]; exact hm, _, _, Z2, [], dats fs, .dat d, [], h2'.aside, of_rpAll (hg Z2 zs r2'), ⟨rfl, rfl, _, _, rfl, rfl, hR⟩, fun v Z3 H3 s3 h3 r3 => q v Z3 H3 (s2.trans s3) ?_ r3⟩
    have := h2'.back s3 h3
    rw [List.append_nil] at this
    exact this
end

/-! ### built-ins -/
section
variable {X : Cx} {P : Program} {w : World} {K : PySem.W.Frag} {mg : Str → Option Value} {base : Heap} {N : List Str} {sc : Scope} {lv : Nat} {a b e : Expr} {ta tb te : TE} {p p2 pos : Pos} {tr : TA}
def rLenA (K : PySem.W.Frag) : List V → Hp → VK → Prop := fun xs H Q => (∃ p ys, xs = [.ref p] ∧ (SqL K H p ys ∨ SqT K H p ys) ∧ Q (.int ys.length) H) ∨ ∃ z, xs = [.str z] ∧ z.length ≤ sizeLine ∧ Q (.int z.length) H
theorem q_len (C : Ctx X P w K mg base N sc lv) (hm : mg "len" = none) (ha : PA X [e] tr) (hg : GK sc "len" := by rfl) (h1 : starEach [e] X.env = (false, eval e X.env) :: starEach [] X.env := by rfl) (h2 : (backTo pos (starEach [] X.env)).any (·.1) = false := by rfl) : PE X (.Call (.Name "len" p) [e] [] pos) (tCB (rLenA K) tr) := by
  have := C.hK; subst this
  exact pe_callB (call_len_seq.or call_len_str) (C.gl hg) (by rw [C.hmg]; exact hm) PySem.boot_len ha (by decide) (by decide) h1 h2
theorem q_isi (C : Ctx X P w K mg base N sc lv) (hm : mg "isinstance" = none) (ha : PA X [a, b] tr) (hg : GK sc "isinstance" := by rfl)
    (h1 : starEach [a, b] X.env = (false, eval a X.env) :: starEach [b] X.env := by rfl) (h2 : (backTo pos (starEach [b] X.env)).any (·.1) = false := by rfl) : PE X (.Call (.Name "isinstance" p) [a, b] [] pos) (tCB (fun xs H Q => rIsi K xs H Q ∨ rIsiT K xs H Q) tr) := by
  have := C.hK; subst this
  exact pe_callB (call_isi.or call_isiT) (C.gl hg) (by rw [C.hmg]; exact hm) (by decide +kernel) ha (by decide) (by decide) h1 h2
theorem q_all (C : Ctx X P w K mg base N sc lv) (hm : mg "all" = none) (ha : PA X [e] tr) (hg : GK sc "all" := by rfl) (h1 : starEach [e] X.env = (false, eval e X.env) :: starEach [] X.env := by rfl) (h2 : (backTo pos (starEach [] X.env)).any (·.1) = false := by rfl) : PE X (.Call (.Name "all" p) [e] [] pos) (tCB (rAll K) tr) := by
  have := C.hK; subst this
  exact pe_callB (cr_all C.calm) (C.gl hg) (by rw [C.hmg]; exact hm) (by decide +kernel) ha (by decide) (by decide) h1 h2
theorem q_any (C : Ctx X P w K mg base N sc lv) (hm : mg "any" = none) (ha : PA X [e] tr) (hg : GK sc "any" := by rfl) (h1 : starEach [e] X.env = (false, eval e X.env) :: starEach [] X.env := by rfl) (h2 : (backTo pos (starEach [] X.env)).any (·.1) = false := by rfl) : PE X (.Call (.Name "any" p) [e] [] pos) (tCB (rAny K) tr) := by
  have := C.hK; subst this
  exact pe_callB (cr_any C.calm) (C.gl hg) (by rw [C.hmg]; exact hm) (by decide +kernel) ha (by decide) (by decide) h1 h2
def rTupOf (K : PySem.W.Frag) : List V → Hp → VK → Prop := fun xs H Q => ∃ p ys, xs = [.ref p] ∧ ((SqL K H p ys ∧ ∀ l, H l = none → Q (.ref l) (upd H l (.tup ys))) ∨ (SqT K H p ys ∧ Q (.ref p) H))
def rLstOf (K : PySem.W.Frag) : List V → Hp → VK → Prop := fun xs H Q => ∃ p ys, xs = [.ref p] ∧ (SqL K H p ys ∨ SqT K H p ys) ∧ ∀ l, H l = none → Q (.ref l) (upd H l (.lst ys))
theorem q_tuple (C : Ctx X P w K mg base N sc lv) (hm : mg "tuple" = none) (ha : PA X [e] tr) (hg : GK sc "tuple" := by rfl) (h1 : starEach [e] X.env = (false, eval e X.env) :: starEach [] X.env := by rfl) (h2 : (backTo pos (starEach [] X.env)).any (·.1) = false := by rfl) : PE X (.Call (.Name "tuple" p) [e] [] pos) (tCB (rTupOf K) tr) := by
  have := C.hK; subst this
  exact pe_callTy call_tuple_of (C.gl hg) (by rw [C.hmg]; exact hm) (by decide +kernel) ha (by decide) (by decide) h1 h2
theorem q_list (C : Ctx X P w K mg base N sc lv) (hm : mg "list" = none) (ha : PA X [e] tr) (hg : GK sc "list" := by rfl) (h1 : starEach [e] X.env = (false, eval e X.env) :: starEach [] X.env := by rfl) (h2 : (backTo pos (starEach [] X.env)).any (·.1) = false := by rfl) : PE X (.Call (.Name "list" p) [e] [] pos) (tCB (rLstOf K) tr) := by
  have := C.hK; subst this
  exact pe_callTy call_list_of (C.gl hg) (by rw [C.hmg]; exact hm) (by decide +kernel) ha (by decide) (by decide) h1 h2
/-- a slice of a tuple, of a list -/
def rSlB (K : PySem.W.Frag) : V → Option Int → Option Int → Hp → VK → Prop := fun x lo hi H Q => rSlA K x lo hi H Q ∨ rSlL K x lo hi H Q
theorem q_slice (C : Ctx X P w K mg base N sc lv) {lo hi : Option Expr} {tl th : TO} (he : PE X e te) (hl : PO X lo tl) (hu : PO X hi th) : PE X (.Subscript e (.Slice lo hi none p2) pos) (tSl (rSlB K) te tl th) := by
  have := C.hK; subst this; exact pe_slice (sl_tupA.or sl_list) he hl hu
theorem q_revL (C : Ctx X P w K mg base N sc lv) {k : Nat} {p1 p2 p3 pos : Pos} (he : PE X e te) : PE X (.Subscript e (.Slice none none (some (.UnaryOp .USub (.Constant (.int 1) k p1) p2)) p3) pos) (tRevL K te) := by
  have := C.hK; subst this; exact pe_revL he
/-! statements -/
theorem q_set (C : FCtx X P w K mg base N sc lv) (i : Nat) {x : Str} {pos' : Pos} (he : PE X e te) (hi : N[i]? = some x := by rfl) (hx : Loc sc x := by first | exact Or.inl rfl | exact Or.inr rfl) (hs : swapsWith e (some (.Name x pos')) pos.line X.env = pure false := by rfl) :
    PS X (.Assign [.Name x pos'] e pos) (tAsg te (gName i)) :=
  ps_set (by rw [C.hN]; exact C.nd) (by rw [C.hN]; exact hi) (by rw [C.hsc]; exact hx) he hs (Or.inl (C.fn x))
theorem q_name (C : FCtx X P w K mg base N sc lv) (i : Nat) {x : Str} (hi : N[i]? = some x := by rfl) (hx : Loc sc x := by first | exact Or.inl rfl | exact Or.inr rfl) : PG X (.Name x pos) (gName i) :=
  pg_name (by rw [C.hN]; exact C.nd) (by rw [C.hN]; exact hi) (by rw [C.hsc]; exact hx) (Or.inl (C.fn x))
/-- a comprehension's own name -/
theorem q_nameC (C : Ctx X P w K mg base N sc lv) (i : Nat) {x : Str} (hi : N[i]? = some x := by rfl) (hx : sc.names.lookup x = some .local := by rfl) : PG X (.Name x pos) (gName i) :=
  pg_name (by rw [C.hN]; exact C.nd) (by rw [C.hN]; exact hi) (by rw [C.hsc]; exact Or.inl hx) (Or.inr (by rw [C.hsc]; exact hx))
theorem q_tgs (C : Ctx X P w K mg base N sc lv) {es : List Expr} {k n : Nat} {t : TGs} (h : PGs X es t) (hn : (assignEach es X.env).length = n := by rfl) (hst : (assignEach es X.env).findIdx? (·.1) = none := by rfl) : PG X (.Tuple es k pos) (gTup K n t) := by
  have := C.hK; subst this; exact pg_tup C.calm h hn hst
theorem q_for (C : Ctx X P w K mg base N sc lv) {tg iter : Expr} {body : List Stmt} {wi : TI} {g : TG} {tb : TS} (hi : PI X tg iter wi) (hg : PG X tg g) (hb : PSs X body tb) (hs : ∀ x, foldedSetIterable iter X.env x = pure x := by intro _; rfl) : PS X (.For tg iter body [] pos) (tFor wi g tb) :=
  ps_for C.pass C.calm hi hg hb hs
theorem q_while (C : Ctx X P w K mg base N sc lv) {c : Expr} {body : List Stmt} {tc : TT} {tb : TS} (hc : PT X c tc) (hb : PSs X body tb) : PS X (.While c body [] pos) (tWhile tc tb) := ps_while C.pass hc hb
theorem blockKind_of {env : Env} (h : env.scope.kind = .function) : env.blockKind = .function := by unfold Env.blockKind; rw [h]; rfl
/-- what swappedStores asks of the env, by the scope -/
def swapNames (sc : Scope) (ts : List Expr) : List Str := ts.filterMap fun
    | .Name id pos => if sc.names.lookup id == some .local && pos.line == (ts.head?.map (·.pos.line)).getD 0 then some id else none
    | _ => none
def swapStar (vs : List Expr) : Bool := vs.any fun | .Starred .. => true | _ => false
def swapD (sc : Scope) (ts vs : List Expr) : Option (List Str) :=
  if (!(ts.length == 2 || ts.length == 3) || vs.length != ts.length) then none else
  if swapStar vs then none else
  if (swapNames sc ts).length != ts.length || (swapNames sc ts).eraseDups.length != (swapNames sc ts).length then none else
  if vs.all (foldedForSure 8) then none else some (swapNames sc ts)
theorem swap_of {env : Env} {ts vs : List Expr} {k k2 : Nat} {p p2 : Pos} (hk : env.scope.kind = .function) (hc : vs.all (foldedForSure 8) = true ∨ vs.all (constantsAlone 8) = false) :
    swappedStores [.Tuple ts k p] (.Tuple vs k2 p2) env = pure (swapD env.scope ts vs) := by
  have hb : (env.blockKind != ScopeKind.function) = false := by rw [blockKind_of hk]; rfl
  unfold swappedStores swapD
  simp only [hb, Bool.or_false, Env.kindOf]
  by_cases h : (!(ts.length == 2 || ts.length == 3) || vs.length != ts.length) = true
  · exact (if_pos h).trans (congrArg pure (if_pos h)).symm
  · refine (if_neg h).trans (Eq.trans ?_ (congrArg pure (if_neg h)).symm)
    by_cases h : swapStar vs = true
    · exact (if_pos h).trans (congrArg pure (if_pos h)).symm
    · refine (if_neg h).trans (Eq.trans ?_ (congrArg pure (if_neg h)).symm)
      by_cases h : ((swapNames env.scope ts).length != ts.length || (swapNames env.scope ts).eraseDups.length != (swapNames env.scope ts).length) = true
      · exact (if_pos h).trans (congrArg pure (if_pos h)).symm
      · refine (if_neg h).trans (Eq.trans ?_ (congrArg pure (if_neg h)).symm)
        by_cases h : vs.all (foldedForSure 8) = true
        · exact (if_pos h).trans (congrArg pure (if_pos h)).symm
        · refine (if_neg h).trans (Eq.trans ?_ (congrArg pure (if_neg h)).symm)
          rcases hc with z | z
          · exact absurd z h
          · exact if_neg (by rw [z]; exact Bool.false_ne_true)
theorem q_par (C : Ctx X P w K mg base N sc lv) (i j : Nat) {x y : Str} {a b : Expr} {ta : TA} {px py pt : Pos} {kt k2 : Nat} {pt2 : Pos} (ha : PA X [a, b] ta) (hi : N[i]? = some x := by rfl) (hj : N[j]? = some y := by rfl) (hij : i ≠ j := by decide)
    (hx : sc.names.lookup x = some .local := by rfl) (hy : sc.names.lookup y = some .local := by rfl) (hk : sc.kind = .function := by rfl) (hc : [a, b].all (constantsAlone 8) = false := by rfl) (hw : swapD sc [.Name x px, .Name y py] [a, b] = some [x, y] := by decide +kernel)
    (hs : swapsWithSole [.Tuple [.Name x px, .Name y py] kt pt] (.Tuple [a, b] k2 pt2) pos.line X.env = pure false := by rfl) :
    PS X (.Assign [.Tuple [.Name x px, .Name y py] kt pt] (.Tuple [a, b] k2 pt2) pos) (tPar i j ta) :=
  ps_par C.calm (by rw [C.hN]; exact C.nd) (by rw [C.hN]; exact hi) (by rw [C.hN]; exact hj) hij (by rw [C.hsc]; exact hx) (by rw [C.hsc]; exact hy) ha (by rw [swap_of (by rw [C.hsc]; exact hk) (Or.inr hc), C.hsc, hw]) hs
theorem q_par3 (C : Ctx X P w K mg base N sc lv) (i j l : Nat) {x y z : Str} {a b c : Expr} {ta : TA} {px py pz pt : Pos} {kt k2 : Nat} {pt2 : Pos} (ha : PA X [a, b, c] ta) (hi : N[i]? = some x := by rfl) (hj : N[j]? = some y := by rfl) (hl : N[l]? = some z := by rfl) (hij : i ≠ j := by decide) (hil : i ≠ l := by decide) (hjl : j ≠ l := by decide)
    (hx : sc.names.lookup x = some .local := by rfl) (hy : sc.names.lookup y = some .local := by rfl) (hz : sc.names.lookup z = some .local := by rfl) (hk : sc.kind = .function := by rfl) (hc : [a, b, c].all (constantsAlone 8) = false := by rfl) (hw : swapD sc [.Name x px, .Name y py, .Name z pz] [a, b, c] = some [x, y, z] := by decide +kernel)
    (hs : swapsWithSole [.Tuple [.Name x px, .Name y py, .Name z pz] kt pt] (.Tuple [a, b, c] k2 pt2) pos.line X.env = pure false := by rfl) :
    PS X (.Assign [.Tuple [.Name x px, .Name y py, .Name z pz] kt pt] (.Tuple [a, b, c] k2 pt2) pos) (tPar3 i j l ta) :=
  ps_par3 C.calm (by rw [C.hN]; exact C.nd) (by rw [C.hN]; exact hi) (by rw [C.hN]; exact hj) (by rw [C.hN]; exact hl) hij hil hjl (by rw [C.hsc]; exact hx) (by rw [C.hsc]; exact hy) (by rw [C.hsc]; exact hz) ha (by rw [swap_of (by rw [C.hsc]; exact hk) (Or.inr hc), C.hsc, hw]) hs
end
end TB

end
-- TB4
section
set_option Elab.async false
set_option linter.all false
set_option maxRecDepth 100000
set_option maxHeartbeats 2000000
/-! TB4: enumerate of a tuple; what built-ins are worth at the data level; comprehensions' terms. -/
namespace TB
open PySem L2 PyProof.Rows
set_option maxHeartbeats 4000000 in
theorem meets_enum1 {v : Value} {o : Obj} {H : Heap → Prop} (B : Begins v o H) :
    Meets (Builtin.«enumerate.__new__» ⟨[.type "enumerate", v], []⟩) (fun _ R s => H s.heap ∧
      R (.ok (.ret (.ref (s.heap.push o).objs.size))) { s with heap := (s.heap.push o).push { cls := .type "enumerate", data := .fields #[.none, .bool false, .ref s.heap.objs.size, rawInt 0, .none, .none] } }) :=
  .of_wp fun prog w A R s h => by
    obtain ⟨hp, g, d, tk, os⟩ := s; obtain ⟨h1, h⟩ := h
    have hsub := sub_enumerate
    have q1 : ∀ {A' : Around} {E : Value → Shared → Prop} {Q : Value → Shared → Prop}, Q (.ref hp.objs.size) ⟨hp.push o, g, d, tk, os⟩ → wpAny (model prog w) A' (pyIter v) Q E ⟨hp, g, d, tk, os⟩ :=
      fun q => B.iter prog w _ _ ⟨hp, g, d, tk, os⟩ _ h1 q
    wp_walk using q1
    refine wpAny_stack_any fun st => wpAny_pure ?_
    split
    · rename_i c _ _ _ _ _
      cases (c == Value.type "enumerate")
      · wp_walk using q1
        exact ⟨_, rfl, h⟩
      · wp_walk using q1
        exact ⟨_, rfl, h⟩
    · wp_walk using q1
      exact ⟨_, rfl, h⟩
section
variable {prog : Program} {w : World} {A : Around} {E : Value → Shared → Prop} {s : Shared}
theorem enum_begins1 {v : Value} {o : Obj} {H : Heap → Prop} {Q : Value → Shared → Prop} (B : Begins v o H) (h1 : H s.heap)
    (h : ∀ h', IsEnum h' (s.heap.objs.size + 1) s.heap.objs.size 0 .none → h'.get? s.heap.objs.size = some o → h'.objs.size = s.heap.objs.size + 2 →
      (∀ b o, s.heap.get? b = some o → h'.get? b = some o) → Q (.ref (s.heap.objs.size + 1)) { s with heap := h' }) :
    wpAny (model prog w) A (call (.type "enumerate") [v]) Q E s := by
  refine callType_new F.called_enumerate (by decide) (F.typeCall_enumerate_1 _) (F.newCall_enumerate_1 _) (fun obj => F.args_object_init_2 obj _) F.entry_enumerate_new
    (meets_enum1 B) ⟨h1, ?_⟩
  have hz : (s.heap.push o).objs.size = s.heap.objs.size + 1 := Heap.size_push ..
  show _ ∧ _
  rw [hz]
  have he : IsEnum ((s.heap.push o).push { cls := .type "enumerate", data := .fields #[.none, .bool false, .ref s.heap.objs.size, rawInt 0, .none, .none] }) (s.heap.objs.size + 1) s.heap.objs.size 0 .none := by
    have := Heap.get?_push_size (s.heap.push o) (o := { cls := .type "enumerate", data := .fields #[.none, .bool false, .ref s.heap.objs.size, rawInt 0, .none, .none] }) rfl
    rw [hz] at this; exact this
  refine ⟨⟨_, he, rfl⟩, h _ he (Heap.get?_push_of_some _ (Heap.get?_push_size _ B.free)) (by rw [Heap.size_push, hz]) fun b o x => Heap.get?_push_of_some _ (Heap.get?_push_of_some _ x)⟩
end
/-- the tuple at a, each item in a new pair -/
def IteT (K : PySem.W.Frag) (a : Addr) : It :=
  ⟨fun i H => ∃ (xs : List V) (x : V), SqT K H a xs ∧ xs[i]? = some x, fun i H v H' => ∃ T x, v = .ref T ∧ H T = none ∧ H' = upd H T (.tup [.int (i : Nat), x]) ∧ ∀ xs, SqT K H a xs → xs[i]? = some x, fun i H => ∃ xs : List V, SqT K H a xs ∧ xs.length ≤ i⟩
theorem turn_enumT {P : Program} {w : World} {K : PySem.W.Frag} {elts : List Expr} {kk : Nat} {tpos : Pos} (a e it : Addr) :
    Turn P w K (.Tuple elts kk tpos) (IteT K a) [e, it] e (fun i h => (∃ old, IsEnum h e it ((i : Nat) : Int) old) ∧ h.IsTupleIter it a i ∧ e ≠ it) where
  mem := by simp
  obj := fun i h st b hb => by
    obtain ⟨⟨old, he⟩, ⟨o, ho, hc, hd⟩, _⟩ := st
    have e' : b = e ∨ b = it := by simpa using hb
    rcases e' with z | z
    · rw [z]; exact ⟨_, he, fun v q => nomatch q⟩
    · rw [z]; exact ⟨o, ho, fun v q => by rw [hd] at q; cases q⟩
  keep := fun i h h' st k => let ⟨⟨old, he⟩, hi, hne⟩ := st; ⟨⟨old, k e (by simp) _ he⟩, hi.at fun o q => k it (by simp) o q, hne⟩
  item := by
    intro X hP hw hK hc i pins s σ H E I hf st hg
    subst hP hw hK
    obtain ⟨⟨old, he⟩, hit, hne⟩ := st
    obtain ⟨xs, x, hq, hx⟩ := hg
    obtain ⟨its, rv, p, hz⟩ := I.tuple hq
    obtain ⟨u, hu, ru⟩ := rv.get hx
    have hel : e < s.heap.objs.size := Heap.lt_size he
    have hil : it < s.heap.objs.size := by obtain ⟨_, q, _⟩ := hit; exact Heap.lt_size q
    have hai : a ≠ it := fun z => by
      obtain ⟨o1, q1, c1, _⟩ := hit
      obtain ⟨o2, q2, c2, _⟩ := p
      rw [z, q1] at q2; cases q2; rw [c1] at c2; injection c2 with c2; exact absurd c2 (by decide)
    have hae : e ≠ a := fun z => by
      obtain ⟨o2, q2, c2, _⟩ := p
      have he' : s.heap.get? e = some _ := he
      rw [← z, he'] at q2; cases q2; injection c2 with c2; exact absurd c2 (by decide)
    have hA : X.A.in1.handled = none := I.ok.hd hc
    have hlt : i < its.toArray.size := by
      have := (List.getElem?_eq_some_iff.mp hu).1
      simpa using this
    refine wpAny_pyNext_enum_itemC (Draws.tuple hA it a hai its.toArray) he ⟨hit, p⟩ hlt hne (by simp [hne, hae]) fun x' h' tk hP ho hit' hT hsz hk => ?_
    have ex : x' = u := by
      have h1 : its.toArray[i]? = some x' := hP
      rw [show its.toArray[i]? = its[i]? by simp, hu] at h1
      exact (Option.some.inj h1).symm
    subst ex
    refine ⟨_, rfl, wpAny_letOwnedTupleGo_enum (s := { s with heap := h', toks := tk + 1 }) ho fun h'' he' sb => ?_⟩
    have hT2 : h''.get? s.heap.objs.size = some { cls := .type "tuple", data := .seq #[.int i tk, x'] } := (sb.2 _ (Nat.ne_of_gt hel)).trans hT
    have new : ObjOk X.prog X.w (upd H s.heap.objs.size (.tup [.int (i : Nat), x])) h'' s.heap.objs.size (.tup [.int (i : Nat), x]) :=
      ⟨by show 2 ≤ sizeLine; decide, [.int i tk, x'], .cons ⟨_, rfl⟩ (.cons ru .nil), ⟨_, hT2, rfl, _, rfl⟩⟩
    have I1 : Inv X pins σ (upd H s.heap.objs.size (.tup [.int (i : Nat), x])) { s with heap := h'', toks := tk + 1 } :=
      I.turnedNew (ch := [e, it]) (fun b ob hb q => (sb.2 b (fun z => hb (by simp [z]))).trans (hk b ob (fun z => hb (by simp [z])) (fun z => hb (by simp [z])) q)) hf (Nat.le_refl _) new
    refine ⟨.ref s.heap.objs.size, _, I1, rfl, ⟨_, x, rfl, I.hok.fresh (Nat.le_refl _), rfl, fun ys hy => by rw [I.tuple_inj hy hq]; exact hx⟩, ⟨⟨x', ?_⟩, hit'.1.at fun o q => (sb.2 it (Ne.symm hne)).trans q, hne⟩, fun b hb => ?_⟩
    · have e1 : ((i + 1 : Nat) : Int) = (i : Int) + 1 := by omega
      rw [e1]; exact he'
    · have hb' : b < s.heap.objs.size := by
        have e' : b = e ∨ b = it := by simpa using hb
        rcases e' with z | z
        · rw [z]; exact hel
        · rw [z]; exact hil
      rw [upd_ne (Nat.ne_of_lt hb')]
      exact (hf b hb).1
  done := by
    intro X hP hw hK hc i pins s σ H E I hf st hg
    subst hP hw hK
    obtain ⟨⟨old, he⟩, hit, hne⟩ := st
    obtain ⟨xs, hq, hx⟩ := hg
    obtain ⟨its, rv, p, hz⟩ := I.tuple hq
    obtain ⟨f0, f1, f2, f3, f4, f5⟩ := hf it (by simp)
    have hl := rv.length
    have hai : a ≠ it := fun z => by
      obtain ⟨o1, q1, c1, _⟩ := hit
      obtain ⟨o2, q2, c2, _⟩ := p
      rw [z, q1] at q2; cases q2; rw [c1] at c2; injection c2 with c2; exact absurd c2 (by decide)
    have hA : X.A.in1.handled = none := I.ok.hd hc
    have hge : its.toArray[i]? = none := by simp; omega
    unfold pyNext
    have hT : s.TypeIs (.ref e) "enumerate" := ⟨_, he, rfl⟩
    refine wpAny_bind (wpAny_attempt (wpAny_callSpecial?_slot (name := Str.ofString "__next__") hT F.slot_enumerate_next
      (wpAny_call_entry F.slot_enumerate_next hT F.entry_enumerate_next ?_ (F.args_enumerate_next_1 _))))
    show wpAny _ _ (field (.ref e) 2 >>= _) _ _ _
    refine wpAny_bind (wpAny_field he rfl (x := .ref it) rfl ?_)
    refine wpAny_bind (wpAny_nextOf_tuple_end hA hit p hge fun h' e' eb st => ?_)
    obtain ⟨o, ho, hc2⟩ := st
    refine wpAny_bind (wpAny_isInstance (T := "StopIteration") (b := true) ⟨o, ho, hc2⟩ isSubtype_stop ?_)
    exact wpAny_pure ⟨rfl, I.turned (t' := s.toks) (fun b o hb q => eb b o hb q) f0 f1 f3 f4 f5⟩
  self := fun A i s Q E st h => let ⟨⟨_, he⟩, _⟩ := st; wpAny_pyIter_enum he h
/-- enumerate of a list or a tuple -/
def iEnumA (K : PySem.W.Frag) (ta : TA) : TI := fun σ H R => ta σ H fun vs H1 => (∃ a xs, vs = [.ref a] ∧ SqL K H1 a xs ∧ R (Ite K a) H1) ∨ ∃ a xs, vs = [.ref a] ∧ SqT K H1 a xs ∧ R (IteT K a) H1
theorem pi_enumA {X : Cx} {e : Expr} {ta : TA} {p pos tpos : Pos} {elts : List Expr} {kk : Nat} (hg : Gl X "enumerate") (hm : X.mg "enumerate" = none) (ha : PA X [e] ta) (hs : starEach [e] X.env = [(false, eval e X.env)]) (hp : (backTo pos (starEach [] X.env)).any (·.1) = false) :
    PI X (.Tuple elts kk tpos) (.Call (.Name "enumerate" p) [e] [] pos) (iEnumA X.K ta) := by
  refine ⟨fun pins s σ H R I h => ?_⟩
  refine Call_ (ld_blt I hg hm boot_enumerate (PyProof.Rows.callWith_type1 (thn (ha.run pos pins s σ H _ I h) fun us s1 ⟨vs, H1, I1, r1, q1⟩ => ?_) hs hp))
  rcases q1 with ⟨a, xs, ex, hq, q⟩ | ⟨a, xs, ex, hq, q⟩
  · subst ex
    cases r1 with
    | cons r rr =>
      cases rr
      cases r
      obtain ⟨its, rv, p', hz⟩ := I1.list hq
      refine call_enumerate_list p'.isList fun h' he hit hsz hk => wpAny_pyIter_enum he ?_
      have I2 : Inv X pins σ H1 { s1 with heap := h' } := I1.kept (t' := s1.toks) hk
      refine ⟨s1.heap.objs.size + 1, [s1.heap.objs.size + 1, s1.heap.objs.size], _, _, H1, rfl, I2, turn_enum a (s1.heap.objs.size + 1) s1.heap.objs.size, ⟨⟨.none, he⟩, hit, Nat.succ_ne_self _⟩, fun b hb => ?_, q⟩
      have e' : b = s1.heap.objs.size + 1 ∨ b = s1.heap.objs.size := by simpa using hb
      have hle : s1.heap.objs.size ≤ b := by
        rcases e' with z | z
        · rw [z]; exact Nat.le_add_right _ _
        · rw [z]; exact Nat.le_refl _
      exact I1.fpOk hle (I1.hok.fresh hle)
  · subst ex
    cases r1 with
    | cons r rr =>
      cases rr
      cases r
      obtain ⟨its, rv, p', hz⟩ := I1.tuple hq
      refine enum_begins1 (begins_tuple a its.toArray) p' fun h' he hit hsz hk => wpAny_pyIter_enum he ?_
      have I2 : Inv X pins σ H1 { s1 with heap := h' } := I1.kept (t' := s1.toks) hk
      refine ⟨s1.heap.objs.size + 1, [s1.heap.objs.size + 1, s1.heap.objs.size], _, _, H1, rfl, I2, turn_enumT a (s1.heap.objs.size + 1) s1.heap.objs.size, ⟨⟨.none, he⟩, ⟨_, hit, rfl, rfl⟩, Nat.succ_ne_self _⟩, fun b hb => ?_, q⟩
      have e' : b = s1.heap.objs.size + 1 ∨ b = s1.heap.objs.size := by simpa using hb
      have hle : s1.heap.objs.size ≤ b := by
        rcases e' with z | z
        · rw [z]; exact Nat.le_add_right _ _
        · rw [z]; exact Nat.le_refl _
      exact I1.fpOk hle (I1.hok.fresh hle)
end TB

end
-- TB5
section
set_option Elab.async false
set_option linter.all false
set_option maxRecDepth 100000
set_option maxHeartbeats 2000000
/-! TB5: built-ins at the data level, comprehensions' terms, a def's proof. -/
namespace TB
open PySem L2
section
variable {K : PySem.W.Frag} {Γ : Gm} {O O1 O2 O3 : OH} {ta tb te : TE} {w : W} {tr tk : TA} {ws : List W} {ds es : List PyData} {d : PyData}
def enumD (ds : List PyData) : List PyData := ds.mapIdx fun i d => .tuple [.int (i : Int), d]
theorem enumD_get (ds : List PyData) (n : Nat) : (enumD ds)[n]? = ds[n]?.map fun d => .tuple [.int (n : Int), d] := by unfold enumD; rw [List.getElem?_mapIdx]
theorem enumD_length (ds : List PyData) : (enumD ds).length = ds.length := by unfold enumD; rw [List.length_mapIdx]
theorem dats_get (ds : List PyData) (n : Nat) : (dats ds)[n]? = ds[n]?.map W.dat := by unfold dats; rw [List.getElem?_map]
theorem dats_length (ds : List PyData) : (dats ds).length = ds.length := by unfold dats; rw [List.length_map]
theorem walk_pairs {J : It} {Z : Hp} {xs : List V} {ds : List PyData} (hgo : ∀ i H, i < xs.length → Same Z H → J.go i H) (hst : ∀ H, Same Z H → J.stop xs.length H)
    (hy : ∀ i H x H', i < xs.length → Same Z H → J.yld i H x H' → ∃ T y, x = .ref T ∧ H T = none ∧ H' = upd H T (.tup [.int (i : Nat), y]) ∧ xs[i]? = some y) (r : RpAll K Z xs ds) : WalkD K Z anyO J (dats (enumD ds)) :=
  ⟨fun F G Z1 O1 H1 n hn s h _ => hgo n H1 (by rw [r.length, ← enumD_length, ← dats_length]; exact hn) (s.trans h.ex),
    fun F G Z1 O1 H1 n w x H2 e s h _ y => by
      rw [dats_get, enumD_get] at e
      cases e2 : ds[n]? with
      | none => rw [e2] at e; cases e
      | some d =>
        rw [e2] at e
        cases e
        obtain ⟨v, e3, rv⟩ := r.get e2
        obtain ⟨T, y', rfl, hT, rfl, e4⟩ := hy n H1 x H2 (List.getElem?_eq_some_iff.mp e3).1 (s.trans h.ex) y
        rw [e3] at e4; cases e4
        have sn := same_new (u := .tup [.int (n : Nat), v]) (h.ex.free hT)
        exact ⟨_, sn, h.new hT, .tup (SqT.of upd_same) (.cons (.int _) (.cons (rv.mono (s.trans sn)) .nil))⟩,
    fun F G Z1 O1 H1 s h _ => by
      rw [dats_length, enumD_length, ← r.length]
      exact hst H1 (s.trans h.ex)⟩
theorem ei_enumT (h : Ea K Γ O tr [.dat (.tuple ds)] O1) : Ei K Γ O (iEnumA K tr) (dats (enumD ds)) anyO O1 := fun F G Z σ H hf hs R q =>
  h F G Z σ H hf hs _ fun vs Z1 H1 s1 g1 r1 => by
    cases r1 with
    | cons r r' =>
      cases r'
      cases r with
      | @tup a xs _ hq r =>
        refine Or.inr ⟨a, xs, rfl, same_t g1.ex hq, q _ Z1 H1 s1 g1 (walk_pairs (xs := xs) (fun i H hi s => ⟨xs, xs[i], same_t s hq, by simp [hi]⟩) (fun H s => ⟨xs, same_t s hq, Nat.le_refl _⟩) (fun i H x H' hi s y => ?_) r)⟩
        obtain ⟨T, y', e1, e2, e3, e4⟩ := y
        exact ⟨T, y', e1, e2, e3, e4 xs (same_t s hq)⟩
theorem ei_enumL (h : Ea K Γ O tr [.dat (.list ds)] O1) : Ei K Γ O (iEnumA K tr) (dats (enumD ds)) anyO O1 := fun F G Z σ H hf hs R q =>
  h F G Z σ H hf hs _ fun vs Z1 H1 s1 g1 r1 => by
    cases r1 with
    | cons r r' =>
      cases r'
      cases r with
      | @lst a xs _ hq r =>
        refine Or.inl ⟨a, xs, rfl, same_l g1.ex hq, q _ Z1 H1 s1 g1 (walk_pairs (xs := xs) (fun i H hi s => ⟨xs, xs[i], same_l s hq, by simp [hi]⟩) (fun H s => ⟨xs, same_l s hq, Nat.le_refl _⟩) (fun i H x H' hi s y => ?_) r)⟩
        obtain ⟨T, y', e1, e2, e3, e4⟩ := y
        exact ⟨T, y', e1, e2, e3, e4 xs (same_l s hq)⟩
/-! built-in calls -/
theorem ed_lenT (h : Ea K Γ O tr [.dat (.tuple ds)] O1) : Ed K Γ O (tCB (rLenA K) tr) (.dat (.int ds.length)) O1 := fun F G Z σ H hf hs Q q =>
  h F G Z σ H hf hs _ fun vs Z1 H1 s1 g1 r1 => by
    cases r1 with
    | cons r r' =>
      cases r'
      cases r with
      | tup hq r => exact Or.inl ⟨_, _, rfl, Or.inr (same_t g1.ex hq), q _ Z1 H1 s1 g1 (by rw [r.length]; exact .int _)⟩
theorem ed_lenL (h : Ea K Γ O tr [.dat (.list ds)] O1) : Ed K Γ O (tCB (rLenA K) tr) (.dat (.int ds.length)) O1 := fun F G Z σ H hf hs Q q =>
  h F G Z σ H hf hs _ fun vs Z1 H1 s1 g1 r1 => by
    cases r1 with
    | cons r r' =>
      cases r'
      cases r with
      | lst hq r => exact Or.inl ⟨_, _, rfl, Or.inl (same_l g1.ex hq), q _ Z1 H1 s1 g1 (by rw [r.length]; exact .int _)⟩
theorem ed_lenS {x : Str} (h : Ea K Γ O tr [.dat (.str x)] O1) (hz : x.length ≤ sizeLine) : Ed K Γ O (tCB (rLenA K) tr) (.dat (.int x.length)) O1 := fun F G Z σ H hf hs Q q =>
  h F G Z σ H hf hs _ fun vs Z1 H1 s1 g1 r1 => by
    cases r1 with
    | cons r r' =>
      cases r'
      cases r
      exact Or.inr ⟨x, rfl, hz, q _ Z1 H1 s1 g1 (.int _)⟩
theorem ed_lenO {p : Addr} {k : Nat} (h : Ea K Γ O tr [.own p] O1) (hk : O1[k]? = some (p, .lst ws)) : Ed K Γ O (tCB (rLenA K) tr) (.dat (.int ws.length)) O1 := fun F G Z σ H hf hs Q q =>
  h F G Z σ H hf hs _ fun vs Z1 H1 s1 g1 r1 => by
    cases r1 with
    | cons r r' =>
      cases r'
      cases r
      obtain ⟨ho, e, r⟩ := g1.at hk
      cases ho with
      | lst vs => exact Or.inl ⟨_, _, rfl, Or.inl (SqL.of e), q _ Z1 H1 s1 g1 (by rw [← Paired.length (show Paired _ _ _ from r)]; exact .int _)⟩
      | _ => exact r.elim
/-- the built-in class of data -/
def tyD : PyData → String
  | .none => "NoneType"
  | .bool _ => "bool"
  | .int _ => "int"
  | .str _ => "str"
  | .list _ => "list"
  | .tuple _ => "tuple"
  | .dict _ => "dict"
theorem Rp.ty {H : Hp} {v : V} (r : Rp K H v d) : TyX K H v (.type (tyD d)) := by
  cases r with
  | non => exact .base .non
  | bl b => exact .base (.bl b)
  | int i => exact .base (.int i)
  | str x => exact .base (.str x)
  | lst h _ =>
    rcases h with (h | ⟨o, h⟩) | ⟨o, its, n, h, c, _⟩
    · exact .base (.lst h)
    · exact .base (.frz h)
    · exact .kList h c
  | tup h _ =>
    rcases h with (h | ⟨o, h⟩) | ⟨o, its, n, h, c, _⟩
    · exact .base (.tup h)
    · exact .fTuple h
    · exact .kTuple h c
  | dct h _ => exact .base (.dK h)
theorem ed_isi {T : String} {b : Bool} (h : Ed K Γ O te (.dat d) O1) (hb : kitB (tyD d) T = some b) : Ed K Γ O (tCB (fun xs H Q => rIsi K xs H Q ∨ rIsiT K xs H Q) (tCons te (tCons (tC (.ty T)) tNil))) (.dat (.bool b)) O1 := fun F G Z σ H hf hs Q q =>
  h F G Z σ H hf hs _ fun v Z1 H1 s1 g1 r1 => Or.inl ⟨v, .ty T, _, _, b, rfl, .ty T, (Rp.mono g1.ex r1).ty, kit_ty hb, q _ Z1 H1 s1 g1 (.bl b)⟩
theorem ed_isi2 {T T' : String} {b b' : Bool} (h : Ed K Γ O te (.dat d) O1) (hb : kitB (tyD d) T = some b) (hb' : kitB (tyD d) T' = some b') :
    Ed K Γ O (tCB (fun xs H Q => rIsi K xs H Q ∨ rIsiT K xs H Q) (tCons te (tCons (tTup (tCons (tC (.ty T)) (tCons (tC (.ty T')) tNil))) tNil))) (.dat (.bool (b || b'))) O1 := fun F G Z σ H hf hs Q q =>
  h F G Z σ H hf hs _ fun v Z1 H1 s1 g1 r1 => by
    refine ⟨by show 2 ≤ sizeLine; decide, fun p hp => Or.inr ⟨v, p, _, .type (tyD d), [.type T, .type T'], b || b', rfl, upd_same, .cons (.ty T) (.cons (.ty T') .nil), ?_, ?_, ?_⟩⟩
    · exact (Rp.mono (g1.ex.trans (same_new hp)) r1).ty
    · refine kitAny_cons (kit_ty hb) (fun hf => ?_) (fun hf => by rw [hf]; rfl)
      subst hf
      exact kitAny_cons (kit_ty hb') (fun hf => by subst hf; rfl) (fun hf => by rw [hf]; rfl)
    · exact q _ _ _ (s1.trans (same_new (g1.ex.free hp))) (g1.new hp) (.bl _)
theorem rpAll_bools {Z : Hp} : ∀ {bs : List Bool} {vs : List V}, RpAll K Z vs (bs.map PyData.bool) → vs = bs.map V.bl
  | [], _, h => by cases h; rfl
  | b :: bs, _, h => by
    cases h with
    | cons h r =>
      cases h
      rw [rpAll_bools r]; rfl
theorem ed_all {bs : List Bool} (h : Ea K Γ O tr [.dat (.list (bs.map PyData.bool))] O1) : Ed K Γ O (tCB (rAll K) tr) (.dat (.bool (bs.all id))) O1 := fun F G Z σ H hf hs Q q =>
  h F G Z σ H hf hs _ fun vs Z1 H1 s1 g1 r1 => by
    cases r1 with
    | cons r r' =>
      cases r'
      cases r with
      | lst hq r =>
        have := rpAll_bools r; subst this
        exact ⟨_, bs, rfl, same_l g1.ex hq, q _ Z1 H1 s1 g1 (.bl _)⟩
theorem ed_any {bs : List Bool} (h : Ea K Γ O tr [.dat (.list (bs.map PyData.bool))] O1) : Ed K Γ O (tCB (rAny K) tr) (.dat (.bool (bs.any id))) O1 := fun F G Z σ H hf hs Q q =>
  h F G Z σ H hf hs _ fun vs Z1 H1 s1 g1 r1 => by
    cases r1 with
    | cons r r' =>
      cases r'
      cases r with
      | lst hq r =>
        have := rpAll_bools r; subst this
        exact ⟨_, bs, rfl, same_l g1.ex hq, q _ Z1 H1 s1 g1 (.bl _)⟩
theorem ed_tupleL (h : Ea K Γ O tr [.dat (.list ds)] O1) : Ed K Γ O (tCB (rTupOf K) tr) (.dat (.tuple ds)) O1 := fun F G Z σ H hf hs Q q =>
  h F G Z σ H hf hs _ fun vs Z1 H1 s1 g1 r1 => by
    cases r1 with
    | cons r r' =>
      cases r'
      cases r with
      | @lst a xs _ hq r =>
        refine ⟨_, _, rfl, Or.inl ⟨same_l g1.ex hq, fun p hp => ?_⟩⟩
        have sn := same_new (u := .tup xs) (g1.ex.free hp)
        exact q _ _ _ (s1.trans sn) (g1.new hp) (.tup (SqT.of upd_same) (r.mono sn))
theorem ed_tupleT (h : Ea K Γ O tr [.dat (.tuple ds)] O1) : Ed K Γ O (tCB (rTupOf K) tr) (.dat (.tuple ds)) O1 := fun F G Z σ H hf hs Q q =>
  h F G Z σ H hf hs _ fun vs Z1 H1 s1 g1 r1 => by
    cases r1 with
    | cons r r' =>
      cases r'
      cases r with
      | tup hq r => exact ⟨_, _, rfl, Or.inr ⟨same_t g1.ex hq, q _ _ _ s1 g1 (.tup hq r)⟩⟩
theorem en_listT (h : Ea K Γ O tr [.dat (.tuple ds)] O1) : En K Γ O (tCB (rLstOf K) tr) (.lst (dats ds)) O1 := fun F G Z σ H hf hs Q q =>
  h F G Z σ H hf hs _ fun vs Z1 H1 s1 g1 r1 => by
    cases r1 with
    | cons r r' =>
      cases r'
      cases r with
      | tup hq r => exact ⟨_, _, rfl, Or.inr (same_t g1.ex hq), fun p hp => q p Z1 _ s1 (g1.newO hp (of_rpAll r))⟩
theorem en_listL (h : Ea K Γ O tr [.dat (.list ds)] O1) : En K Γ O (tCB (rLstOf K) tr) (.lst (dats ds)) O1 := fun F G Z σ H hf hs Q q =>
  h F G Z σ H hf hs _ fun vs Z1 H1 s1 g1 r1 => by
    cases r1 with
    | cons r r' =>
      cases r'
      cases r with
      | lst hq r => exact ⟨_, _, rfl, Or.inl (same_l g1.ex hq), fun p hp => q p Z1 _ s1 (g1.newO hp (of_rpAll r))⟩
/-! slices -/
def cutD {α : Type} (xs : List α) (lo hi : Option Int) : List α := (xs.drop (HT.sIx xs.length 0 lo)).take (HT.sIx xs.length xs.length hi - HT.sIx xs.length 0 lo)
theorem RpAll.cut {Z : Hp} {xs : List V} (r : RpAll K Z xs ds) (lo hi : Option Int) : RpAll K Z (cutV xs lo hi) (cutD ds lo hi) := by
  unfold cutV cutD
  rw [r.length]
  exact (r.drop _).take _
theorem cutD_whole {α : Type} {xs : List α} {lo hi : Option Int} (h : HT.sIx xs.length 0 lo = 0 ∧ HT.sIx xs.length xs.length hi = xs.length) : cutD xs lo hi = xs := by
  unfold cutD; rw [h.1, h.2]; simp
theorem eo_none : Eo K Γ O tNoPart none O := fun F G Z σ H hf hs Q q => q Z H (Same.refl _) hf
theorem eo_some {i : Int} (h : Ed K Γ O te (.dat (.int i)) O1) : Eo K Γ O (tPart te) (some i) O1 := fun F G Z σ H hf hs Q q =>
  h F G Z σ H hf hs _ fun v Z1 H1 s1 g1 r1 => by
    cases r1
    exact ⟨i, rfl, q Z1 H1 s1 g1⟩
theorem ed_sliceT {tl th : TO} {lo hi : Option Int} (h : Ed K Γ O te (.dat (.tuple ds)) O1) (hl : Eo K Γ O1 tl lo O2) (hh : Eo K Γ O2 th hi O3) : Ed K Γ O (tSl (rSlB K) te tl th) (.dat (.tuple (cutD ds lo hi))) O3 := fun F G Z σ H hf hs Q q =>
  h F G Z σ H hf hs _ fun v Z1 H1 s1 g1 r1 => hl F G Z1 σ H1 g1 (hs.mono s1) _ fun Z2 H2 s2 g2 => hh F G Z2 σ H2 g2 (hs.mono (s1.trans s2)) _ fun Z3 H3 s3 g3 => by
    cases r1 with
    | @tup a xs _ hq r =>
      have s4 := s2.trans s3
      have r := r.mono s4
      have hq := same_t s4 hq
      refine Or.inl ⟨a, xs, rfl, same_t g3.ex hq, fun hw => ?_, fun _ p hp => ?_⟩
      · rw [r.length] at hw
        rw [cutD_whole hw] at q
        exact q _ Z3 H3 (s1.trans s4) g3 (.tup hq r)
      · have sn := same_new (u := .tup (cutV xs lo hi)) (g3.ex.free hp)
        exact q _ _ _ ((s1.trans s4).trans sn) (g3.new hp) (.tup (SqT.of upd_same) ((r.cut lo hi).mono sn))
theorem en_sliceL {tl th : TO} {lo hi : Option Int} (h : Ed K Γ O te (.dat (.list ds)) O1) (hl : Eo K Γ O1 tl lo O2) (hh : Eo K Γ O2 th hi O3) : En K Γ O (tSl (rSlB K) te tl th) (.lst (dats (cutD ds lo hi))) O3 := fun F G Z σ H hf hs Q q =>
  h F G Z σ H hf hs _ fun v Z1 H1 s1 g1 r1 => hl F G Z1 σ H1 g1 (hs.mono s1) _ fun Z2 H2 s2 g2 => hh F G Z2 σ H2 g2 (hs.mono (s1.trans s2)) _ fun Z3 H3 s3 g3 => by
    cases r1 with
    | @lst a xs _ hq r =>
      have s4 := s2.trans s3
      exact Or.inr ⟨a, xs, rfl, same_l g3.ex (same_l s4 hq), fun p hp => q p Z3 _ (s1.trans s4) (g3.newO hp (of_rpAll ((r.mono s4).cut lo hi)))⟩
theorem en_revL (h : Ed K Γ O te (.dat (.list ds)) O1) : En K Γ O (tRevL K te) (.lst (dats ds.reverse)) O1 := fun F G Z σ H hf hs Q q =>
  h F G Z σ H hf hs _ fun v Z1 H1 s1 g1 r1 => by
    cases r1 with
    | @lst a xs _ hq r => exact ⟨a, xs, rfl, same_l g1.ex hq, fun p hp => q p Z1 _ s1 (g1.newO hp (of_rpAll r.reverse))⟩
theorem rn_par3 {t : TS} {D : Dn} {i j l : Nat} {x y z : W} (h : Ea K Γ O tr [x, y, z] O1) (k : D.nx (((Γ.set i (some x)).set j (some y)).set l (some z)) O1) : Rn K Γ O (tPar3 i j l tr) D := fun F G Z σ H hf hs E he =>
  h F G Z σ H hf hs _ fun vs Z1 H1 s1 h1 r1 => by
    cases r1 with
    | cons r1 r =>
      cases r with
      | cons r2 r =>
        cases r with
        | cons r3 r =>
          cases r
          exact ⟨_, _, _, rfl, he.nx _ O1 Z1 _ H1 k s1 h1 ((((hs.mono s1).set i r1).set j r2).set l r3)⟩
/-- an owned list changed at a place -/
theorem rn_setO {D : Dn} {p : Addr} {k j : Nat} {i : Int} (h : Ed K Γ O te w O1) (ho : Ed K Γ O1 ta (.own p) O2) (hi : Ed K Γ O2 tb (.dat (.int i)) O3) (hk : O3[k]? = some (p, .lst ws)) (hj : ixN ws.length i = some j) (kk : D.nx Γ (O3.set k (p, .lst (ws.set j w)))) :
    Rn K Γ O (tAsg te (gSub ta tb rSetL)) D := fun F G Z σ H hf hs E he =>
  h F G Z σ H hf hs _ fun v Z1 H1 s1 g1 r1 => ho F G Z1 σ H1 g1 (hs.mono s1) _ fun o Z2 H2 s2 g2 r2 => hi F G Z2 σ H2 g2 (hs.mono (s1.trans s2)) _ fun iv Z3 H3 s3 g3 r3 => by
    cases r2
    cases r3
    obtain ⟨hob, e, r⟩ := g3.at hk
    cases hob with
    | lst vs =>
      have r : Paired (RepW K Z3) ws vs := r
      refine ⟨p, vs, i, j, rfl, rfl, e, by rw [← Paired.length r]; exact hj, ?_⟩
      exact he.nx Γ _ Z3 σ _ kk ((s1.trans s2).trans s3) (g3.write hk (paired_set (r1.mono (s2.trans s3)) j r)) (hs.mono ((s1.trans s2).trans s3))
    | _ => exact r.elim
end

/-! ### terms of comprehensions -/
section
variable {X : Cx} {P : Program} {w : World} {K : PySem.W.Frag} {mg : Str → Option Value} {base : Heap} {N : List Str} {sc : Scope} {lv : Nat} {elt tg iter e : Expr} {ifs : List Expr} {scope : Scope} {wi : TI} {g : TG} {tt : TT} {te : TE} {p pos tpos : Pos} {tr : TA}
theorem q_iTup (C : Ctx X P w K mg base N sc lv) (h : PE X e te) : PI X tg e (iTup K te) := by have := C.hK; subst this; exact pi_tup h
theorem q_iLst (C : Ctx X P w K mg base N sc lv) (h : PE X e te) : PI X tg e (iList K te) := by have := C.hK; subst this; exact pi_list h
theorem q_rng1 (C : Ctx X P w K mg base N sc lv) {a : Expr} (hm : mg "range" = none) (ha : PA X [a] tr) (hg : GK sc "range" := by rfl) (hs : starEach [a] X.env = [(false, eval a X.env)] := by rfl) : PI X tg (.Call (.Name "range" p) [a] [] pos) (iRng1 tr) :=
  pi_range1 (C.gl hg) (by rw [C.hmg]; exact hm) ha hs
theorem q_rng2 (C : Ctx X P w K mg base N sc lv) {a b : Expr} (hm : mg "range" = none) (ha : PA X [a, b] tr) (hg : GK sc "range" := by rfl) (hs : starEach [a, b] X.env = [(false, eval a X.env), (false, eval b X.env)] := by rfl) (hs2 : starEach [b] X.env = [(false, eval b X.env)] := by rfl) : PI X tg (.Call (.Name "range" p) [a, b] [] pos) (iRng2 tr) :=
  pi_range2 (C.gl hg) (by rw [C.hmg]; exact hm) ha hs hs2
theorem q_enum (C : Ctx X P w K mg base N sc lv) {elts : List Expr} {kk : Nat} (hm : mg "enumerate" = none) (ha : PA X [e] tr) (hg : GK sc "enumerate" := by rfl) (hs : starEach [e] X.env = [(false, eval e X.env)] := by rfl) (hp : (backTo pos (starEach [] X.env)).any (·.1) = false := by rfl) :
    PI X (.Tuple elts kk tpos) (.Call (.Name "enumerate" p) [e] [] pos) (iEnumA K tr) := by
  have := C.hK; subst this; exact pi_enumA (C.gl hg) (by rw [C.hmg]; exact hm) ha hs hp
theorem q_lc (C : Ctx X P w K mg base N sc lv) (own : List (Str × Nat)) {vs : List Nat} (hi : PI X tg iter wi) (hg : ∀ X', Ctx X' P w K mg base N (relS scope sc) lv → PG X' tg g) (ht : ∀ X', Ctx X' P w K mg base N (relS scope sc) lv → PTs X' ifs tt)
    (he : ∀ X', Ctx X' P w K mg base N (relS scope sc) lv → PE X' elt te) (ok : blkC N sc scope own = true := by decide +kernel) (hv : own.map (·.2) = vs := by rfl) (hs : ∀ x, foldedSetIterable iter X.env x = pure x := by intro _; rfl) :
    PE X (.ListComp elt [⟨tg, iter, ifs, 0⟩] scope pos) (tLc wi g tt te vs) := by
  subst hv
  exact pe_lc C.calm (by rw [C.hN]; exact C.nd) hi (by rw [C.hN, C.hsc]; exact blkOk_by ok) (fun s H c cl fp => hg _ (C.blk s H scope c cl fp)) (fun s H c cl fp => ht _ (C.blk s H scope c cl fp)) (fun s H c cl fp => he _ (C.blk s H scope c cl fp)) hs
/-- y = [..], y a local of the same row -/
theorem q_setLc (C : FCtx X P w K mg base N sc lv) (i : Nat) (own : List (Str × Nat)) {vs : List Nat} {y : Str} {py spos : Pos} (hi : PI X tg iter wi) (hg : ∀ X', Ctx X' P w K mg base N (relS scope sc) lv → PG X' tg g) (ht : ∀ X', Ctx X' P w K mg base N (relS scope sc) lv → PTs X' ifs tt)
    (he : ∀ X', Ctx X' P w K mg base N (relS scope sc) lv → PE X' elt te) (hy : N[i]? = some y := by rfl) (hyl : sc.names.lookup y = some .local := by rfl) (hk : sc.kind = .function := by rfl) (hl : (py.line == pos.line) = true := by rfl) (ha : (scope.names.any fun (n, k) => n == y && (k == .local || k == .cell)) = false := by decide +kernel)
    (ok : blkC N sc scope own = true := by decide +kernel) (hv : own.map (·.2) = vs := by rfl) (hs : ∀ x, foldedSetIterable iter X.env x = pure x := by intro _; rfl) :
    PS X (.Assign [.Name y py] (.ListComp elt [⟨tg, iter, ifs, 0⟩] scope pos) spos) (tAsg (tLc wi g tt te vs) (gName i)) := by
  subst hv
  exact ps_setLc C.calm (by rw [C.hN]; exact C.nd) (by rw [C.hN]; exact hy) (by rw [C.hsc]; exact hyl) (sw_true (by rw [C.hsc]; exact hk) (by rw [C.hsc]; exact hyl) hl ha) hi (by rw [C.hN, C.hsc]; exact blkOk_by ok)
    (fun s H c cl fp => hg _ (C.blk s H scope c cl fp)) (fun s H c cl fp => ht _ (C.blk s H scope c cl fp)) (fun s H c cl fp => he _ (C.blk s H scope c cl fp)) hs
/-- y = [..] where y is captured, or on another row -/
theorem sw_false {gs : List Comprehension} {py : Pos} {y : Str} {l : Nat} {env : Env} (h : (sc.names.lookup y == some NameKind.local && py.line == pos.line) = false) (hsc : env.scope = sc) : swapsWith (.ListComp elt gs scope pos) (some (.Name y py)) l env = pure false := by
  unfold swapsWith
  subst hsc
  show pure _ = pure false
  have e : (env.kindOf y == some NameKind.local && py.line == (Expr.ListComp elt gs scope pos).pos.line) = false := h
  rw [Bool.and_assoc, Bool.and_assoc, ← Bool.and_assoc (env.kindOf y == some NameKind.local), e, Bool.false_and, Bool.and_false]
theorem q_setLcC (C : FCtx X P w K mg base N sc lv) (i : Nat) {gs : List Comprehension} {y : Str} {py spos : Pos} (he : PE X (.ListComp elt gs scope pos) te) (hy : N[i]? = some y := by rfl) (hx : Loc sc y := by first | exact Or.inl rfl | exact Or.inr rfl) (h : (sc.names.lookup y == some NameKind.local && py.line == pos.line) = false := by rfl) :
    PS X (.Assign [.Name y py] (.ListComp elt gs scope pos) spos) (tAsg te (gName i)) := q_set C i he hy hx (sw_false h C.hsc)
end
/-! ### a def -/
section
variable {P : Program} {w : World} {K : PySem.W.Frag} {mg : Str → Option Value} {base : Heap}
def startG (N : List Str) (ws : List W) : Gm := ws.map some ++ List.replicate (N.length - ws.length) none
theorem startG_fit {N : List Str} {ws : List W} {vs : List V} {Z : Hp} (r : Paired (RepW K Z) ws vs) : SFit K Z (startG N ws) (L2.start N vs) := by
  unfold startG L2.start
  rw [Paired.length r]
  refine paired_append ?_ ?_
  · have : ∀ {ws : List W} {vs : List V}, Paired (RepW K Z) ws vs → Paired (fun (w : Option W) (v : Option V) => ∀ x, w = some x → ∃ y, v = some y ∧ RepW K Z x y) (ws.map some) (vs.map some) := fun {ws vs} r => by
      induction r with
      | nil => exact .nil
      | cons r t ih => exact .cons (fun x e => by cases e; exact ⟨_, rfl, r⟩) ih
    exact this r
  · have : ∀ n : Nat, Paired (fun (w : Option W) (v : Option V) => ∀ x, w = some x → ∃ y, v = some y ∧ RepW K Z x y) (List.replicate n none) (List.replicate n none) := fun n => by
      induction n with
      | zero => exact .nil
      | succ n ih => exact .cons (fun x e => by cases e) ih
    exact this _
/-- what is wanted of a body -/
def toRet (w : W) (O : OH) : Dn := { nx := fun _ O1 => w = .dat .none ∧ O1 = O, rt := fun w1 O1 => w1 = w ∧ O1 = O }
def toRetN (mo : MO) (O : OH) : Dn := { nx := fun _ _ => False, rt := fun w1 O1 => ∃ p, w1 = .own p ∧ O1 = (p, mo) :: O }
abbrev FunS (K : PySem.W.Frag) (x : Str) (st : Stmt) (dvs : List V) (kws : List (Str × V)) (f : Addr) (fd : FuncData) : Prop := FunD K x x (defArgs st) (defBody st) (defScope st) dvs kws f fd
theorem def_ok {x : Str} {st : Stmt} {dvs : List V} {kws : List (Str × V)} {f : Addr} {fd : FuncData} {N ps : List Str} {lv : Nat} {R : List W → OH → W → OH → Prop} (F : FunS K x st dvs kws f fd) (S : FnScope N ps (defScope st)) (hn : ∀ ws O u O', R ws O u O' → ws.length = ps.length)
    (hb : ∀ X, FCtx X P w K mg base N (defScope st) lv → ∃ t, PSs X (defBody st) t ∧ ∀ ws O u O', R ws O u O' → Rn K (startG N ws) O t (toRet u O')) : FnG P w K mg base CX0 (lv + 1) f fd ps (spR K R) := by
  refine FunD.okG F S (fun vs H Q E h => ?_) (fun cdv A outer s H vs Q E hG hr h => ?_)
  · obtain ⟨F, G, Z, O, ws, u, O', hf, r, hR, q⟩ := h
    rw [← Paired.length r]; exact hn _ _ _ _ hR
  · obtain ⟨F, G, Z, O, ws, u, O', hf, r, hR, q⟩ := h
    obtain ⟨t, h1, h2⟩ := hb (cxOf CX0 P w K mg base N x (defScope st) _ cdv A outer s H E).nox ⟨⟨rfl, rfl, rfl, rfl, rfl, rfl, S.nd, rfl, rfl, hr, rfl, hG⟩, fun _ => rfl⟩
    refine ⟨t, h1.nox, h2 ws O u O' hR F G Z _ H hf (startG_fit r) _ ⟨?_, ?_, fun _ _ _ _ _ z => z.elim, fun _ _ _ _ _ z => z.elim⟩⟩
    · intro Γ O1 Z' σ H' ⟨e1, e2⟩ s' h' _
      subst e1 e2
      exact q _ Z' H' s' h' .non
    · intro w1 O1 v Z' H' ⟨e1, e2⟩ s' h' r'
      subst e1 e2
      exact q v Z' H' s' h' r'
theorem def_okN {x : Str} {st : Stmt} {dvs : List V} {kws : List (Str × V)} {f : Addr} {fd : FuncData} {N ps : List Str} {lv : Nat} {R : List W → OH → MO → OH → Prop} (F : FunS K x st dvs kws f fd) (S : FnScope N ps (defScope st)) (hn : ∀ ws O u O', R ws O u O' → ws.length = ps.length)
    (hb : ∀ X, FCtx X P w K mg base N (defScope st) lv → ∃ t, PSs X (defBody st) t ∧ ∀ ws O u O', R ws O u O' → Rn K (startG N ws) O t (toRetN u O')) : FnG P w K mg base CX0 (lv + 1) f fd ps (spN K R) := by
  refine FunD.okG F S (fun vs H Q E h => ?_) (fun cdv A outer s H vs Q E hG hr h => ?_)
  · obtain ⟨F, G, Z, O, ws, u, O', hf, r, hR, q⟩ := h
    rw [← Paired.length r]; exact hn _ _ _ _ hR
  · obtain ⟨F, G, Z, O, ws, u, O', hf, r, hR, q⟩ := h
    obtain ⟨t, h1, h2⟩ := hb (cxOf CX0 P w K mg base N x (defScope st) _ cdv A outer s H E).nox ⟨⟨rfl, rfl, rfl, rfl, rfl, rfl, S.nd, rfl, rfl, hr, rfl, hG⟩, fun _ => rfl⟩
    refine ⟨t, h1.nox, h2 ws O u O' hR F G Z _ H hf (startG_fit r) _ ⟨fun _ _ _ _ _ z => z.elim, ?_, fun _ _ _ _ _ z => z.elim, fun _ _ _ _ _ z => z.elim⟩⟩
    intro w1 O1 v Z' H' ⟨p, e1, e2⟩ s' h' r'
    subst e1 e2
    cases r'
    exact q p Z' H' s' h'
/-- a def of data to data -/
theorem def_ok1 {x : Str} {st : Stmt} {dvs : List V} {kws : List (Str × V)} {f : Addr} {fd : FuncData} {N ps : List Str} {lv : Nat} {R : List PyData → PyData → Prop} (F : FunS K x st dvs kws f fd) (S : FnScope N ps (defScope st)) (hn : ∀ ds d, R ds d → ds.length = ps.length)
    (hb : ∀ X, FCtx X P w K mg base N (defScope st) lv → ∃ t, PSs X (defBody st) t ∧ ∀ ds d, R ds d → Rn K (startG N (dats ds)) [] t (toRet (.dat d) [])) : FnG P w K mg base CX0 (lv + 1) f fd ps (spR K (pure1 R)) :=
  def_ok F S (fun ws O u O' ⟨_, _, ds, d, e1, _, h⟩ => by rw [e1, dats_length]; exact hn ds d h) fun X C => by
    obtain ⟨t, h1, h2⟩ := hb X C
    refine ⟨t, h1, fun ws O u O' ⟨e1, e2, ds, d, e3, e4, h⟩ => ?_⟩
    subst e1 e2 e3 e4
    exact h2 ds d h
/-! ### how calls bind -/
variable {x qual : Str} {params : Arguments} {body : List Stmt} {scope : Scope} {kws : List (Str × V)} {f : Addr} {fd : FuncData} {ps : List Str}
theorem kb_plain (F : FunD K x qual params body scope [] kws f fd) (n : Nat) (ks : List Str) (g : {α : Type} → List α → List α → List α) (hrel : ∀ {vs zs : List V} {us ws : List Value}, Vals vs us → Vals zs ws → Vals (g vs zs) (g us ws))
    (h : ∀ (kV doc pm : Value) (an : Option Addr) (cdv ct : Value) (us ws : List Value), us.length = n → ws.length = ks.length → bindArgs (PySem.W.fnOf x qual params body scope .none kV doc pm an cdv ct) ⟨us, ks.zip ws⟩ = pure (ps.zip (g us ws))) : KBn K fd ps n ks (fun us ws => g us ws) (fun vs zs => g vs zs) := by
  obtain ⟨oc, od, dV, kV, doc, pm, an, cdv, ct, osl, rfl, lk, hcd, hD, hK⟩ := F.ex
  rcases hD with ⟨_, rfl⟩ | ⟨e, _⟩
  · exact ⟨fun s us ws X l1 l2 => .of_eq (h kV doc pm an cdv ct us ws l1 l2), fun r1 r2 => hrel r1 r2⟩
  · exact absurd rfl e
theorem kb_kw (F : FunD K x qual params body scope [] kws f fd) (n : Nat) (ks : List Str) (ms : List (Str × V)) (g : {α : Type} → List α → List α → List α → List α) (hk : kws ≠ []) (hms : ∀ q ∈ ms, q ∈ kws)
    (hrel : ∀ {vs mz zs : List V} {us mv ws : List Value}, Vals vs us → Vals mz mv → Vals zs ws → Vals (g vs mz zs) (g us mv ws))
    (h : ∀ (D : Addr) (doc pm : Value) (an : Option Addr) (cdv ct : Value) (us mv ws : List Value), us.length = n → mv.length = ms.length → ws.length = ks.length →
      KwChain D ((ms.map (·.1)).zip mv) (bindArgs (PySem.W.fnOf x qual params body scope .none (.ref D) doc pm an cdv ct) ⟨us, ks.zip ws⟩) (ps.zip (g us mv ws))) :
    ∃ mv : List Value, KBn K fd ps n ks (fun us ws => g us mv ws) (fun vs zs => g vs (ms.map (·.2)) zs) := by
  obtain ⟨oc, od, dV, kV, doc, pm, an, cdv, ct, osl, rfl, lk, hcd, hD, hK⟩ := F.ex
  rcases hD with ⟨_, rfl⟩ | ⟨e, _⟩
  · rcases hK with e | ⟨D, rfl, hq⟩
    · exact absurd e hk
    · obtain ⟨mv, hl, rk, hks⟩ := kwd_vals (ms := ms) fun q hm => hq q (hms q hm)
      exact ⟨mv, ⟨fun s us ws X l1 l2 => BindsTo.of_looks fun M => KwChain.looks X hks (h D doc pm an cdv ct us mv ws l1 hl l2), fun r1 r2 => hrel r1 rk r2⟩⟩
  · exact absurd rfl e
end
end TB

end
-- TB6
section
set_option Elab.async false
set_option linter.all false
set_option maxRecDepth 100000
set_option maxHeartbeats 4000000
/-! TB6: + and * of any kind, unpacking of lists, defs of the text, the law's end. -/
namespace TB
open PySem L2 PyProof.Rows
section
variable {X : Cx}
theorem Inv.lstR {pins : List (Addr × Obj)} {σ : L2.St} {H : Hp} {s : Shared} {l : Addr} {xs : List V} (I : Inv X pins σ H s) (hH : Rd H l (.lst xs)) : xs.length ≤ sizeLine ∧ ∃ (its : List Value) (n : Nat), Vals xs its ∧ xs.length = its.length ∧ s.heap.get? l = some { cls := .type "list", data := .seq its.toArray n } := by
  obtain ⟨z, its, n, r, e⟩ := hH.ok I.hok
  exact ⟨z, its, n, r, r.length, e⟩
def rCatL (K : PySem.W.Frag) : R2 := fun x y H Q => ∃ l b xs zs, x = .ref l ∧ y = .ref b ∧ SqL K H l xs ∧ SqL K H b zs ∧ xs.length + zs.length ≤ sizeLine ∧ ∀ p, H p = none → Q (.ref p) (upd H p (.lst (xs ++ zs)))
theorem op_catL : OpR X (binaryOp .Add) (rCatL X.K) := by
  intro pins s σ H x y v u Q I rx ry h
  obtain ⟨l, b, xs, zs, rfl, rfl, hH, hB, hz, q⟩ := h
  cases rx
  cases ry
  obtain ⟨its, r, ⟨⟨c1, d1, t1, sl1⟩, n, e, hc, hd, hs⟩, _⟩ := I.list hH
  obtain ⟨its2, r2, ⟨⟨c2, d2, t2, sl2⟩, n2, e2, hc2, hd2, hs2⟩, _⟩ := I.list hB
  simp only at hc hd hs hc2 hd2 hs2
  subst hc hd hs hc2 hd2 hs2
  have l1 := r.length
  have l2 := r2.length
  refine concat_meets ⟨_, e, rfl⟩ ⟨_, e2, rfl⟩ noFill_list_add seq_list_add PySem.F.slot_list_add PySem.F.entry_list_add (PySem.F.args_list_add_2 _ _) (list_addW l b its.toArray its2.toArray n n2 none none sl1 sl2 (by rw [List.size_toArray, List.size_toArray]; omega)) ⟨e, e2, ?_⟩
  have ea : its.toArray ++ its2.toArray = (its ++ its2).toArray := by simp
  rw [ea]
  exact ⟨.ref _, _, I.lnew (t' := s.toks) (r.append r2) (by rw [List.length_append]; omega), rfl, q _ I.fresh⟩
/-- a + b -/
def rAddA (K : PySem.W.Frag) : R2 := fun x y H Q => rI0 (fun i j => .int (i + j)) x y H Q ∨ rCatA K x y H Q ∨ rCatL K x y H Q ∨ (∃ i j, x = .str i ∧ y = .str j ∧ i.length + j.length ≤ sizeLine ∧ Q (.str (i ++ j)) H)
theorem op_addA : OpR X (binaryOp .Add) (rAddA X.K) := op_add.or (op_catA.or (op_catL.or op_add_str))
/-- t * k of a tuple -/
theorem tuple_mul1 (l : Addr) (items : Array Value) (n : Nat) (dd : Option Addr) (sl : Array (Option Value)) (u : Tok) :
    Meets (Builtin.«tuple.__mul__» ⟨[.ref l, .int 1 u], []⟩) (fun _ R s => s.heap.get? l = some { cls := .type "tuple", dict := dd, data := .seq items n, slots := sl } ∧ R (.ok (.ret (Value.ref l))) s) :=
  .of_wp fun prog w A R s h => by
    obtain ⟨hp, g, d, tk, os⟩ := s
    obtain ⟨hl, h⟩ := h
    have f1 := AutoSeq1.idx_int
    have c0 : (decide ((1 : Int) < -(2 ^ 63)) || decide ((1 : Int) ≥ 2 ^ 63)) = false := by decide
    have c1 : (items.isEmpty || (1 : Int) == 1) = true := by simp
    wp_walk using wpAny_loadPart' hl
    repeat (first
      | (refine wpAny_ite_false (decide_eq_false (by rw [c0]; exact Bool.false_ne_true)) ?_; wp_walk using wpAny_loadPart' hl)
      | (refine wpAny_ite_true (decide_eq_true c1) ?_; wp_walk using wpAny_loadPart' hl))
    exact ⟨_, rfl, h⟩
def rRepT1 (K : PySem.W.Frag) : R2 := fun x y H Q => ∃ l xs, x = .ref l ∧ y = .int 1 ∧ SqT K H l xs ∧ Q (.ref l) H
theorem op_repT1 : OpR X (binaryOp .Mult) (rRepT1 X.K) := by
  intro pins s σ H x y v u Q I rx ry h
  obtain ⟨l, xs, rfl, rfl, hT, q⟩ := h
  cases rx
  obtain ⟨t, rfl⟩ := ry
  obtain ⟨its, r, ⟨⟨cls, dd, data, sl⟩, ho, hc, n, hd⟩, hs⟩ := I.tuple hT
  simp only at hc hd
  subst hc hd
  exact wpAny_binaryOp_repeat_ref (T := "tuple") (U := "int") (by decide) ⟨_, ho, rfl⟩ (fun s' => typeIs_int s' 1 t) noFill_tuple_mul F.fills_int_mul F.slot_int_rmul repeat_tuple F.slot_int_index.lookup
    (call_meets F.slot_int_rmul (typeIs_int s 1 t) F.entry_int_rmul (F.args_int_rmul_2 _ _) (int_rmul_tuple 1 t l its.toArray n dd sl)
      ⟨ho, rfl, ⟨_, ho, rfl⟩, call_meets F.slot_tuple_mul ⟨_, ho, rfl⟩ F.entry_tuple_mul (F.args_tuple_mul_2 _ _) (tuple_mul1 l its.toArray n dd sl t) ⟨ho, ⟨.ref l, H, I, rfl, q⟩⟩⟩)
def rRepL : R2 := fun x y H Q => ∃ l k xs, x = .ref l ∧ y = .int k ∧ Rd H l (.lst xs) ∧ -(2 ^ 63) ≤ k ∧ k < 2 ^ 63 ∧ xs.length * k.toNat ≤ sizeLine ∧
  ∀ p, H p = none → Q (.ref p) (upd H p (.lst (List.replicate k.toNat xs).flatten))
theorem op_repL : OpR X (binaryOp .Mult) rRepL := by
  intro pins s σ H x y v u Q I rx ry h
  obtain ⟨l, k, xs, rfl, rfl, hH, h1, h2, hz, q⟩ := h
  cases rx
  obtain ⟨t, rfl⟩ := ry
  obtain ⟨z, its, n, r, hl, e⟩ := Inv.lstR I hH
  have hlen : its.toArray.size * k.toNat ≤ sizeLine := by rw [List.size_toArray, ← hl]; exact hz
  have hcap : ¬ its.toArray.size * k.toNat > (2 ^ 63 - 1) / 8 := by
    have : (sizeLine : Nat) ≤ (2 ^ 63 - 1) / 8 := by decide
    omega
  have hfit : ¬ (!Builtin.List.listFitsIndex k) = true := by rw [fitsIndex_both h1 h2]; exact Bool.false_ne_true
  have hlong : ¬ Builtin.List.listTooLong (its.toArray.size * k.toNat) = true := by rw [notLongL hlen]; exact Bool.false_ne_true
  have hnew : List.foldl (fun x1 x2 => x1 ++ x2) #[] (List.replicate (if its.toArray.isEmpty = true then 0 else k.toNat) its.toArray) = (List.replicate k.toNat its).flatten.toArray := by
    have f0 : ∀ m : Nat, List.foldl (fun x1 x2 => x1 ++ x2) #[] (List.replicate m its.toArray) = (List.replicate m its).flatten.toArray := fun m => by
      have := foldl_rep its m []
      rw [List.nil_append] at this
      exact this
    rw [f0]
    cases its with
    | nil => simp
    | cons a r' => rw [if_neg (by simp)]
  refine wpAny_binaryOp_repeat_ref (T := "list") (U := "int") (by decide) ⟨_, e, rfl⟩ (fun s' => typeIs_int s' k t) noFill_list_mul F.fills_int_mul F.slot_int_rmul repeat_list F.slot_int_index.lookup
    (call_meets F.slot_int_rmul (typeIs_int s k t) F.entry_int_rmul (F.args_int_rmul_2 _ _) (int___rmul___int_list k t l its.toArray n)
      ⟨e, rfl, ⟨_, e, rfl⟩, call_meets F.slot_list_mul ⟨_, e, rfl⟩ F.entry_list_mul (F.args_list_mul_2 _ _) (AutoListH.list___mul___list_int_3 l its.toArray n k t hfit hcap hlong) ⟨e, ?_⟩⟩)
  rw [hnew]
  exact ⟨.ref _, _, I.lnew (t' := s.toks) (r.rep k.toNat) (by rw [PyProof.Rows.lm_len_rep_flat, Nat.mul_comm]; exact hz), rfl, q _ I.fresh⟩
/-- a * b -/
def rMulA (K : PySem.W.Frag) : R2 := fun x y H Q => rI CMulW (fun i j => .int (i * j)) x y H Q ∨ rRepT K x y H Q ∨ rRepT1 K x y H Q ∨ rRepL x y H Q
theorem op_mulA : OpR X (binaryOp .Mult) (rMulA X.K) := op_mulW.or (op_repT.or (op_repT1.or op_repL))
variable {P : Program} {w : World} {K : PySem.W.Frag} {mg : Str → Option Value} {base : Heap} {N : List Str} {sc : Scope} {lv : Nat} {a b e : Expr} {ta tb te : TE} {pos : Pos}
theorem q_add (C : Ctx X P w K mg base N sc lv) (ha : PE X a ta) (hb : PE X b tb) : PE X (.BinOp a .Add b pos) (tOp (rAddA K) ta tb) := by have := C.hK; subst this; exact pe_op op_addA ha hb
theorem q_mul (C : Ctx X P w K mg base N sc lv) (ha : PE X a ta) (hb : PE X b tb) : PE X (.BinOp a .Mult b pos) (tOp (rMulA K) ta tb) := by have := C.hK; subst this; exact pe_op op_mulA ha hb
/-- targets: a tuple or a list is unpacked -/
def gSeq (K : PySem.W.Frag) (n : Nat) (t : TGs) : TG := fun v σ H Q => gTup K n t v σ H Q ∨ gUnl K n t v σ H Q
theorem q_seq (C : Ctx X P w K mg base N sc lv) {es : List Expr} {k n : Nat} {t : TGs} (h : PGs X es t) (hn : (assignEach es X.env).length = n := by rfl) (hst : (assignEach es X.env).findIdx? (·.1) = none := by rfl) : PG X (.Tuple es k pos) (gSeq K n t) := by
  have := C.hK; subst this
  refine ⟨fun pins s σ H v u Q I r hw => ?_⟩
  rcases hw with hw | hw
  · exact (pg_tup C.calm h hn hst).run pins s σ H v u Q I r hw
  · exact (pg_unl C.calm h hn hst).run pins s σ H v u Q I r hw
/-- a, b = x, y by a tuple (constants, captured names, other targets) -/
theorem q_asgT (C : Ctx X P w K mg base N sc lv) {ts vs : List Expr} {k k2 : Nat} {p p2 : Pos} {g : TG} (he : PE X (.Tuple vs k2 p2) te) (hg : PG X (.Tuple ts k p) g) (hk : sc.kind = .function := by rfl) (hc : vs.all (foldedForSure 8) = true ∨ vs.all (constantsAlone 8) = false := by first | exact Or.inr rfl | exact Or.inl rfl)
    (hw : swapD sc ts vs = none := by decide +kernel) (hs : swapsWithSole [.Tuple ts k p] (.Tuple vs k2 p2) pos.line X.env = pure false := by rfl) (h1 : (assignEach [.Tuple ts k p] X.env).map (·.2) = [assign (.Tuple ts k p) X.env] := by rfl) :
    PS X (.Assign [.Tuple ts k p] (.Tuple vs k2 p2) pos) (tAsg te g) :=
  ps_asg he hg hs (by rw [swap_of (by rw [C.hsc]; exact hk) hc, C.hsc, hw]) h1
end
section
variable {K : PySem.W.Frag} {Γ Γ' : Gm} {O O1 O2 O3 : OH} {ta tb te : TE} {w : W} {tr tk : TA} {ws : List W} {ds es : List PyData} {d : PyData} {i j : Int}
theorem ed_addI (ha : Ed K Γ O ta (.dat (.int i)) O1) (hb : Ed K Γ O1 tb (.dat (.int j)) O2) : Ed K Γ O (tOp (rAddA K) ta tb) (.dat (.int (i + j))) O2 :=
  ed_op ha hb fun F G Z H u v hf hu hv Q q => by
    cases hu; cases hv
    exact Or.inl ⟨i, j, rfl, rfl, q _ Z H (Same.refl _) hf (.int _)⟩
theorem ed_addT (ha : Ed K Γ O ta (.dat (.tuple ds)) O1) (hb : Ed K Γ O1 tb (.dat (.tuple es)) O2) (hz : ds.length + es.length ≤ sizeLine) : Ed K Γ O (tOp (rAddA K) ta tb) (.dat (.tuple (ds ++ es))) O2 :=
  ed_op ha hb fun F G Z H u v hf hu hv Q q => by
    cases hu with
    | @tup a xs _ hq r =>
      cases hv with
      | @tup b ys _ hq' r' =>
        refine Or.inr (Or.inl ⟨a, b, xs, ys, rfl, rfl, same_t hf.ex hq, same_t hf.ex hq', by rw [r.length, r'.length]; exact hz, fun e => ?_, fun _ e => ?_, fun _ _ p hp => ?_⟩)
        · subst e
          cases r
          exact q _ Z H (Same.refl _) hf (.tup hq' r')
        · subst e
          cases r'
          rw [List.append_nil] at q
          exact q _ Z H (Same.refl _) hf (.tup hq r)
        · have sn := same_new (u := .tup (xs ++ ys)) (hf.ex.free hp)
          exact q _ _ _ sn (hf.new hp) (.tup (SqT.of upd_same) ((r.append r').mono sn))
theorem en_addL (ha : Ed K Γ O ta (.dat (.list ds)) O1) (hb : Ed K Γ O1 tb (.dat (.list es)) O2) (hz : ds.length + es.length ≤ sizeLine) : En K Γ O (tOp (rAddA K) ta tb) (.lst (dats (ds ++ es))) O2 := fun F G Z σ H hf hs Q q =>
  ha F G Z σ H hf hs _ fun u Z1 H1 s1 h1 r1 => hb F G Z1 σ H1 h1 (hs.mono s1) _ fun v Z2 H2 s2 h2 r2 => by
    cases r1 with
    | @lst a xs _ hq r =>
      cases r2 with
      | @lst b ys _ hq' r' =>
        exact Or.inr (Or.inr (Or.inl ⟨a, b, xs, ys, rfl, rfl, same_l (s2.trans h2.ex) hq, same_l h2.ex hq', by rw [r.length, r'.length]; exact hz, fun p hp => q p Z2 _ (s1.trans s2) (h2.newO hp (of_rpAll ((r.mono s2).append r')))⟩))
theorem ed_addS {x y : Str} (ha : Ed K Γ O ta (.dat (.str x)) O1) (hb : Ed K Γ O1 tb (.dat (.str y)) O2) (hz : x.length + y.length ≤ sizeLine) : Ed K Γ O (tOp (rAddA K) ta tb) (.dat (.str (x ++ y))) O2 :=
  ed_op ha hb fun F G Z H u v hf hu hv Q q => by
    cases hu; cases hv
    exact Or.inr (Or.inr (Or.inr ⟨x, y, rfl, rfl, hz, q _ Z H (Same.refl _) hf (.str _)⟩))
theorem ed_mulI (ha : Ed K Γ O ta (.dat (.int i)) O1) (hb : Ed K Γ O1 tb (.dat (.int j)) O2) (hc : CMulW i j) : Ed K Γ O (tOp (rMulA K) ta tb) (.dat (.int (i * j))) O2 :=
  ed_op ha hb fun F G Z H u v hf hu hv Q q => by
    cases hu; cases hv
    exact Or.inl ⟨i, j, rfl, rfl, hc, q _ Z H (Same.refl _) hf (.int _)⟩
theorem ed_mulT (ha : Ed K Γ O ta (.dat (.tuple ds)) O1) (hb : Ed K Γ O1 tb (.dat (.int j)) O2) (hne : ds ≠ []) (h1 : 1 ≤ j) (h2 : j ≤ 1000) (hz : ds.length ≤ 1000) : Ed K Γ O (tOp (rMulA K) ta tb) (.dat (.tuple (List.replicate j.toNat ds).flatten)) O2 :=
  ed_op ha hb fun F G Z H u v hf hu hv Q q => by
    cases hv
    cases hu with
    | @tup a xs _ hq r =>
      by_cases e : j = 1
      · subst e
        have : (List.replicate (1 : Int).toNat ds).flatten = ds := by simp
        rw [this] at q
        exact Or.inr (Or.inr (Or.inl ⟨a, xs, rfl, rfl, same_t hf.ex hq, q _ Z H (Same.refl _) hf (.tup hq r)⟩))
      · refine Or.inr (Or.inl ⟨a, j, xs, rfl, rfl, same_t hf.ex hq, fun z => ?_, by omega, h2, by rw [r.length]; exact hz, fun p hp => ?_⟩)
        · subst z; cases r; exact hne rfl
        · have sn := same_new (u := .tup (List.replicate j.toNat xs).flatten) (hf.ex.free hp)
          exact q _ _ _ sn (hf.new hp) (.tup (SqT.of upd_same) ((r.rep _).mono sn))
theorem en_mulL (ha : En K Γ O ta (.lst (dats ds)) O1) (hb : Ed K Γ O1 tb (.dat (.int j)) O2) (h1 : -(2 ^ 63) ≤ j) (h2 : j < 2 ^ 63) (hz : ds.length * j.toNat ≤ sizeLine) : En K Γ O (tOp (rMulA K) ta tb) (.lst (dats (List.replicate j.toNat ds).flatten)) O2 := fun F G Z σ H hf hs Q q =>
  ha F G Z σ H hf hs _ fun p Z1 H1 s1 h1' => by
    obtain ⟨_, _, ho, e, r⟩ := h1'.ow p _ List.mem_cons_self
    cases ho with
    | lst vs =>
      obtain ⟨h3, s3⟩ := h1'.freeze e
      have r := (rpAll_of r).mono s3
      refine hb F G _ σ H1 h3 (hs.mono (s1.trans s3)) _ fun v Z2 H2 s2 h2' r2 => ?_
      cases r2
      have e2 : H2 p = some (.lst vs) := h2'.ex p _ (s2 p _ upd_same)
      exact Or.inr (Or.inr (Or.inr ⟨p, j, vs, rfl, rfl, Or.inl e2, h1, h2, by rw [r.length]; exact hz, fun p' hp => q p' Z2 _ ((s1.trans s3).trans s2) (h2'.newO hp (of_rpAll ((r.mono s2).rep _)))⟩))
    | _ => exact r.elim
theorem tg_seqT {gs : TGs} {n : Nat} (h : Tgs K gs ds Γ Γ') (hn : ds.length = n) : Tg K (gSeq K n gs) (.dat (.tuple ds)) Γ Γ' := fun Z σ H v s hs r Q q => by
  cases r with
  | tup hq r => exact Or.inl ⟨_, _, rfl, same_t s hq, by rw [r.length]; exact hn, h Z σ H _ s hs r Q q⟩
theorem tg_seqL {gs : TGs} {n : Nat} (h : Tgs K gs ds Γ Γ') (hn : ds.length = n) : Tg K (gSeq K n gs) (.dat (.list ds)) Γ Γ' := fun Z σ H v s hs r Q q => by
  cases r with
  | lst hq r => exact Or.inr ⟨_, _, rfl, same_l s hq, by rw [r.length]; exact hn, h Z σ H _ s hs r Q q⟩
theorem tgc_seqT {vs : List Nat} {gs : TGs} {n : Nat} (h : TgsC K vs gs ds Γ Γ') (hn : ds.length = n) : TgC K vs (gSeq K n gs) (.dat (.tuple ds)) Γ Γ' := fun Z σ H v s hs r Q q => by
  cases r with
  | tup hq r => exact Or.inl ⟨_, _, rfl, same_t s hq, by rw [r.length]; exact hn, h Z σ H _ s hs r Q q⟩
theorem tgc_seqL {vs : List Nat} {gs : TGs} {n : Nat} (h : TgsC K vs gs ds Γ Γ') (hn : ds.length = n) : TgC K vs (gSeq K n gs) (.dat (.list ds)) Γ Γ' := fun Z σ H v s hs r Q q => by
  cases r with
  | lst hq r => exact Or.inr ⟨_, _, rfl, same_l s hq, by rw [r.length]; exact hn, h Z σ H _ s hs r Q q⟩
end
/-! ### the text's defs -/
/-- the def st stands under its name -/
def TopF (K : PySem.W.Frag) (mg : Str → Option Value) (x : Str) (st : Stmt) (dvs : List V) (kws : List (Str × V)) : Prop := ∃ (f : Addr) (fd : FuncData), FunS K x st dvs kws f fd ∧ mg x = some (.ref f)
section
variable {P : Program} {w : World} {K : PySem.W.Frag} {mg : Str → Option Value} {base : Heap}
theorem TopF.mk1 {x : Str} {st : Stmt} {kws : List (Str × V)} {f : Addr} {oc : Value} {od an : Option Addr} {osl : Array (Option Value)} {kV doc pm cdv ct : Value} {h : Heap} (X : K.In h) (G : h.Ns mainGlobals mg) (a : PySem.W.nsIn K mainGlobals x = some (some (.ref f)))
    (l : K.lookup f = some ⟨oc, od, .func (PySem.W.fnOf x x (defArgs st) (defBody st) (defScope st) .none kV doc pm an cdv ct), osl⟩) (c : PySem.W.codeIn K cdv x = true) (k : PySem.W.keepIn K (.ref f) = true) (hk : KwdV K kV kws) : TopF K mg x st [] kws :=
  ⟨f, _, ⟨⟨oc, od, .none, kV, doc, pm, an, cdv, ct, osl, rfl, l, c, Or.inl ⟨rfl, rfl⟩, hk⟩, k⟩, PySem.W.mg_of X G a⟩
variable {x : Str} {st : Stmt} {kws : List (Str × V)} {N ps : List Str} {lv n : Nat} {sp : Sp}
/-- from a def's text and its proof to its use: no defaults -/
theorem TopF.use (T : TopF K mg x st [] kws) (ok : ∀ f fd, FunS K x st [] kws f fd → FnG P w K mg base CX0 lv f fd ps sp)
    (hb : ∀ (kV doc pm : Value) (an : Option Addr) (cdv ct : Value) (us : List Value), us.length = ps.length → bindArgs (PySem.W.fnOf x x (defArgs st) (defBody st) (defScope st) .none kV doc pm an cdv ct) ⟨us, []⟩ = pure (ps.zip us)) : Def P w K mg base lv x n [] sp := by
  obtain ⟨f, fd, F, m⟩ := T
  exact ⟨f, fd, ps, [], ok f fd F, m, F.kp, F.bindsN hb, .nil⟩
/-- .. called by keywords -/
theorem TopF.useN (T : TopF K mg x st [] kws) (ok : ∀ f fd, FunS K x st [] kws f fd → FnG P w K mg base CX0 lv f fd ps sp) (ks : List Str) (g : {α : Type} → List α → List α → List α)
    (hrel : ∀ {vs zs : List V} {us ws : List Value}, Vals vs us → Vals zs ws → Vals (g vs zs) (g us ws))
    (hb : ∀ (kV doc pm : Value) (an : Option Addr) (cdv ct : Value) (us ws : List Value), us.length = n → ws.length = ks.length → bindArgs (PySem.W.fnOf x x (defArgs st) (defBody st) (defScope st) .none kV doc pm an cdv ct) ⟨us, ks.zip ws⟩ = pure (ps.zip (g us ws))) : DefN P w K mg base lv x n ks (fun vs zs => g vs zs) sp := by
  obtain ⟨f, fd, F, m⟩ := T
  exact ⟨f, fd, ps, _, ok f fd F, m, F.kp, kb_plain F n ks g hrel hb⟩
/-- .. with keyword-only parameters that have defaults, all of them left out -/
theorem TopF.useD (T : TopF K mg x st [] kws) (ok : ∀ f fd, FunS K x st [] kws f fd → FnG P w K mg base CX0 lv f fd ps sp) (hk : kws ≠ []) (hn : n + kws.length = ps.length)
    (hb : ∀ (D : Addr) (doc pm : Value) (an : Option Addr) (cdv ct : Value) (us ks : List Value), us.length = n → ks.length = kws.length → KwChain D ((kws.map (·.1)).zip ks) (bindArgs (PySem.W.fnOf x x (defArgs st) (defBody st) (defScope st) .none (.ref D) doc pm an cdv ct) ⟨us, []⟩) (ps.zip (us ++ ks))) : Def P w K mg base lv x n (kws.map (·.2)) sp := by
  obtain ⟨f, fd, F, m⟩ := T
  obtain ⟨ds, h1, h2⟩ := F.binds0 n hk hn hb
  exact ⟨f, fd, ps, ds, ok f fd F, m, F.kp, h2, h1⟩
/-- .. some of them written -/
theorem TopF.useK (T : TopF K mg x st [] kws) (ok : ∀ f fd, FunS K x st [] kws f fd → FnG P w K mg base CX0 lv f fd ps sp) (ks : List Str) (ms : List (Str × V)) (g : {α : Type} → List α → List α → List α → List α) (hk : kws ≠ []) (hms : ∀ q ∈ ms, q ∈ kws)
    (hrel : ∀ {vs mz zs : List V} {us mv ws : List Value}, Vals vs us → Vals mz mv → Vals zs ws → Vals (g vs mz zs) (g us mv ws))
    (hb : ∀ (D : Addr) (doc pm : Value) (an : Option Addr) (cdv ct : Value) (us mv ws : List Value), us.length = n → mv.length = ms.length → ws.length = ks.length →
      KwChain D ((ms.map (·.1)).zip mv) (bindArgs (PySem.W.fnOf x x (defArgs st) (defBody st) (defScope st) .none (.ref D) doc pm an cdv ct) ⟨us, ks.zip ws⟩) (ps.zip (g us mv ws))) : DefN P w K mg base lv x n ks (fun vs zs => g vs (ms.map (·.2)) zs) sp := by
  obtain ⟨f, fd, F, m⟩ := T
  obtain ⟨mv, h⟩ := kb_kw F n ks ms g hk hms hrel hb
  exact ⟨f, fd, ps, _, ok f fd F, m, F.kp, h⟩
/-- the law's promise: a script of at most 63 ints gives True -/
inductive lawR : List W → OH → W → OH → Prop
  | mk {ns : List Int} (h : ns.length ≤ 63) : lawR [.dat (.list (ns.map PyData.int))] [] (.dat (.bool true)) []
theorem law_sp {H : Hp} {a : Addr} {ns : List Int} (h : ns.length ≤ 63) (hr : SqL K H a (ns.map V.int)) : spR K lawR [.ref a] H (fun v _ => v = .bl true) fun _ _ _ => False := by
  refine ⟨fun _ => none, fun _ => True, H, [], [.dat (.list (ns.map PyData.int))], .dat (.bool true), [], ⟨Same.refl _, fun _ _ e => (by cases e), fun _ _ z => (by cases z), List.nodup_nil, fun _ _ _ => Or.inl rfl⟩, .cons (.lst hr ?_) .nil, .mk h, fun v Z' H' _ _ r => by cases r; rfl⟩
  clear h hr
  induction ns with
  | nil => exact .nil
  | cons n ns ih => exact .cons (.int n) ih
theorem kwd_nil {D : Addr} : ∀ q ∈ ([] : List (Str × V)), ∃ u, PySem.W.nsIn K D q.1 = some (some u) ∧ RelV q.2 u := fun _ h => nomatch h
theorem kwd_cons {D : Addr} {x : Str} {v : V} {u : Value} {l : List (Str × V)} (h : PySem.W.nsIn K D x = some (some u)) (r : RelV v u) (hl : ∀ q ∈ l, ∃ u, PySem.W.nsIn K D q.1 = some (some u) ∧ RelV q.2 u) : ∀ q ∈ (x, v) :: l, ∃ u, PySem.W.nsIn K D q.1 = some (some u) ∧ RelV q.2 u := fun q hq => by
  rcases List.mem_cons.mp hq with e | e
  · subst e; exact ⟨u, h, r⟩
  · exact hl q e
/-- the law's end -/
theorem law_end {l : PySem.W.OpenLaw} {q : Program} {loose : List Str} {XP : (Str → Option Value) → Heap → Prop} {YP : World → Heap → Prop} {d : DefRec} {K : Params → PySem.W.Frag} {st : Stmt} {x : Str} {k : Nat} (hn : l.most = some 63) (hdf : d.params.defaults = []) (hname : d.name = "law") (hr : Room k callerA)
    (hY : ∀ (w : World) (h : Heap), YP w h → (K w.params).In h)
    (hb : ∀ (kV doc pm : Value) (an : Option Addr) (cdv ct : Value) (us : List Value), us.length = 1 → bindArgs (PySem.W.fnOf "law" "law" (defArgs st) (defBody st) (defScope st) .none kV doc pm an cdv ct) ⟨us, []⟩ = pure ([x].zip us))
    (F : ∀ (w : World) (mg : Str → Option Value) (h : Heap), (K w.params).In h → h.Ns mainGlobals mg → TopF (K w.params) mg "law" st [] [] ∧ ∀ (base : Heap) (f : Addr) (fd : FuncData), FunS (K w.params) "law" st [] [] f fd → FnG l.prog w (K w.params) mg base CX0 k f fd [x] (spR (K w.params) lawR)) :
    PySem.W.WalkO q loose XP YP l.row.toRowW d [] (fun f vs => PySem.call f vs) :=
  walkG (n := 63) (k := k) (x := x) (CX := fun _ => CX0) (sp := fun w => spR (K w.params) lawR) hn (by decide) hdf hr hY (fun w mg fa h X G hmg => by
    obtain ⟨⟨f, fd, F1, m⟩, F2⟩ := F w mg h X G
    rw [hname, m] at hmg
    cases hmg
    refine ⟨fd, fun s u => ?_, fun base => F2 base _ _ F1⟩
    exact F1.bindsA (ps := [x]) hb s [u] rfl) (fun _ _ _ _ hl _ _ hS => law_sp hl hS) fun _ _ _ _ _ z => z
end
end TB

end
-- M0
section
set_option Elab.async false
set_option linter.all false
set_option maxRecDepth 100000
/-! M0: fractions as rational numbers. -/
namespace TB
open PySem L2
/-- the fraction as the program holds it -/
@[reducible] def fr (q : Rat) : PyData := .tuple [.int q.num, .int (q.den : Int)]
theorem num_pos {q : Rat} (h : 0 < q) : 0 < q.num := by
  have := (Rat.lt_iff 0 q).mp h
  simpa using this
theorem den_pos (q : Rat) : (0 : Int) < (q.den : Int) := by have := q.den_nz; omega
theorem pos_of_num {q : Rat} (h : 0 < q.num) : 0 < q := (Rat.lt_iff 0 q).mpr (by simpa using h)
theorem ne0 {q : Rat} (h : 0 < q) : q ≠ 0 := Rat.ne_of_gt h
theorem div_pos {p q : Rat} (hp : 0 < p) (hq : 0 < q) : 0 < p / q := by rw [Rat.div_def]; exact Rat.mul_pos hp (Rat.inv_pos.mpr hq)
theorem add_pos {p q : Rat} (hp : 0 < p) (hq : 0 < q) : 0 < p + q := by grind
theorem cast_pos {n : Int} (h : 0 < n) : (0 : Rat) < (n : Rat) := Rat.intCast_pos.mpr h
/-- cancelling the greatest common divisor -/
theorem red_num {n m : Int} (hm : 0 < m) : ((n : Rat) / (m : Rat)).num = n / (Int.gcd n m : Int) := by
  rw [← Rat.divInt_eq_div, Rat.num_divInt, Int.sign_eq_one_of_pos hm, Int.one_mul, Int.gcd_comm]
theorem red_den {n m : Int} (hm : 0 < m) : (((n : Rat) / (m : Rat)).den : Int) = m / (Int.gcd n m : Int) := by
  rw [← Rat.divInt_eq_div, Rat.den_divInt, if_neg (by omega), Int.gcd_comm]
  have : (m.natAbs : Int) = m := by omega
  rw [Int.natCast_ediv, this]
theorem fr_red {n m : Int} (hm : 0 < m) : PyData.tuple [.int (n / (Int.gcd n m : Int)), .int (m / (Int.gcd n m : Int))] = fr ((n : Rat) / (m : Rat)) := by
  unfold fr
  rw [red_num hm, red_den hm]
theorem add_frac (p q : Rat) : ((p.num * (q.den : Int) + q.num * (p.den : Int) : Int) : Rat) / (((p.den : Int) * (q.den : Int) : Int) : Rat) = p + q := by
  rw [Rat.add_def', Rat.mkRat_eq_div]
  simp [Rat.intCast_natCast]
theorem mul_frac (p q : Rat) : ((p.num * q.num : Int) : Rat) / (((p.den : Int) * (q.den : Int) : Int) : Rat) = p * q := by
  rw [Rat.mul_def', Rat.mkRat_eq_div]
  simp [Rat.intCast_natCast]
theorem num_inv_pos {q : Rat} (h : 0 < q) : (q⁻¹).num = (q.den : Int) := by
  rw [Rat.num_inv, Int.sign_eq_one_of_pos (num_pos h), Int.one_mul]
theorem den_inv_pos {q : Rat} (h : 0 < q) : ((q⁻¹).den : Int) = q.num := by
  have := num_pos h
  rw [Rat.den_inv, if_neg (by omega)]
  omega
theorem fr_inv {q : Rat} (h : 0 < q) : PyData.tuple [.int (q.den : Int), .int q.num] = fr q⁻¹ := by
  unfold fr
  rw [num_inv_pos h, den_inv_pos h]
theorem gcd_fr (q : Rat) : Int.gcd q.num (q.den : Int) = 1 := by
  have := q.reduced
  unfold Nat.Coprime at this
  rw [← this]
  rfl
theorem fr_one : fr 1 = PyData.tuple [.int 1, .int 1] := rfl
theorem fr_inj {p q : Rat} (h : fr p = fr q) : p = q := by
  unfold fr at h
  injection h with h
  injection h with h1 h2
  injection h1 with h1
  injection h2 with h2 _
  injection h2 with h2
  exact Rat.ext h1 (by omega)
theorem eqv_int (i j : Int) : PyData.eqv (.int i) (.int j) = decide (i = j) := by
  unfold PyData.eqv
  exact Bool.beq_eq_decide_eq i j
theorem eqv_fr (p q : Rat) : PyData.eqv (fr p) (fr q) = decide (p = q) := by
  unfold fr
  simp only [PyData.eqv, PyData.eqvAll, Bool.and_true]
  by_cases h : p = q
  · subst h; simp
  · rw [decide_eq_false h]
    have : ¬ (p.num = q.num ∧ (p.den : Int) = (q.den : Int)) := fun ⟨a, b⟩ => h (Rat.ext a (by omega))
    by_cases a : p.num = q.num
    · have b : ¬ (p.den : Int) = (q.den : Int) := fun b => this ⟨a, b⟩
      simp [a]
      omega
    · simp [a]
theorem eqv_fr_self (p : Rat) : PyData.eqv (fr p) (fr p) = true := by rw [eqv_fr]; simp
theorem shaped_fr (p : Rat) : SeqAt.shaped (fr p) = true := rfl
theorem plain_fr (p : Rat) : plain (fr p) = true := rfl
theorem shaped_int (i : Int) : SeqAt.shaped (.int i) = true := rfl
/-- at most n bits above and below -/
def sz (n : Nat) (q : Rat) : Prop := q.num.natAbs < 2 ^ n ∧ q.den < 2 ^ n
theorem sz.mono {m n : Nat} {q : Rat} (h : sz m q) (hl : m ≤ n) : sz n q :=
  ⟨Nat.lt_of_lt_of_le h.1 (Nat.pow_le_pow_right (by omega) hl), Nat.lt_of_lt_of_le h.2 (Nat.pow_le_pow_right (by omega) hl)⟩
theorem sz.den {n : Nat} {q : Rat} (h : sz n q) : (q.den : Int).natAbs < 2 ^ n := by simpa using h.2
theorem natAbs_ediv_le (a : Int) (b : Nat) : (a / (b : Int)).natAbs ≤ a.natAbs := by
  by_cases hb : b = 0
  · subst hb; simp
  · have h1 : (0 : Int) < (b : Int) := by omega
    rcases Int.le_total 0 a with ha | ha
    · have h2 : a / (b : Int) ≤ a := Int.ediv_le_self _ ha
      have h3 : 0 ≤ a / (b : Int) := Int.ediv_nonneg ha (by omega)
      omega
    · have h2 : a / (b : Int) ≤ 0 := by
        have := Int.ediv_le_ediv h1 ha
        simpa using this
      have h3 : a ≤ a / (b : Int) := by
        rw [Int.le_ediv_iff_mul_le h1]
        have : a * 1 ≥ a * (b : Int) := Int.mul_le_mul_of_nonpos_left ha (by omega)
        omega
      omega
theorem sz_div {n m : Int} {a : Nat} (hm : 0 < m) (h1 : n.natAbs < 2 ^ a) (h2 : m.natAbs < 2 ^ a) : sz a ((n : Rat) / (m : Rat)) := by
  refine ⟨?_, ?_⟩
  · rw [red_num hm]
    exact Nat.lt_of_le_of_lt (natAbs_ediv_le _ _) h1
  · have := red_den (n := n) hm
    have h3 := natAbs_ediv_le m (Int.gcd n m)
    rw [← this] at h3
    simp at h3
    exact Nat.lt_of_le_of_lt h3 h2
theorem wide_add {i j : Int} {a : Nat} (hi : i.natAbs < 2 ^ a) (hj : j.natAbs < 2 ^ a) : (i + j).natAbs < 2 ^ (a + 1) := by
  have h := Int.natAbs_add_le i j
  rw [Nat.pow_succ]
  omega
theorem sz_add {a b : Nat} {p q : Rat} (hp : sz a p) (hq : sz b q) : sz (a + b + 1) (p + q) := by
  rw [← add_frac]
  refine sz_div (Int.mul_pos (den_pos p) (den_pos q)) ?_ ?_
  · refine wide_add (wide_lt hp.1 hq.den) ?_
    rw [Nat.add_comm]
    exact wide_lt hq.1 hp.den
  · exact Nat.lt_of_lt_of_le (wide_lt hp.den hq.den) (Nat.pow_le_pow_right (by omega) (by omega))
theorem sz_mul {a b : Nat} {p q : Rat} (hp : sz a p) (hq : sz b q) : sz (a + b) (p * q) := by
  rw [← mul_frac]
  exact sz_div (Int.mul_pos (den_pos p) (den_pos q)) (wide_lt hp.1 hq.1) (wide_lt hp.den hq.den)
theorem sz_inv {a : Nat} {q : Rat} (h : 0 < q) (hq : sz a q) : sz a q⁻¹ := by
  refine ⟨?_, ?_⟩
  · rw [num_inv_pos h]; exact hq.den
  · have := den_inv_pos h
    have h1 := hq.1
    rw [← this] at h1
    simpa using h1
theorem sz_pos {n : Nat} {q : Rat} (h : sz n q) : 0 < n := by
  cases n with
  | zero => have := h.2; have := q.den_nz; simp at *; omega
  | succ n => omega
theorem sz_one : sz 1 1 := ⟨by decide, by decide⟩
theorem gcd_lt {n m : Int} {a : Nat} (hn : 0 < n) (h : n.natAbs < 2 ^ a) : ((Int.gcd n m : Nat) : Int).natAbs < 2 ^ a := by
  have h1 : Int.gcd n m ≤ n.natAbs := Nat.gcd_le_left _ (by omega)
  have : ((Int.gcd n m : Nat) : Int).natAbs = Int.gcd n m := by omega
  omega
theorem gcd_pos {n m : Int} (hn : 0 < n) : (0 : Int) < (Int.gcd n m : Nat) := by
  have : 0 < Int.gcd n m := Int.gcd_pos_of_ne_zero_left m (by omega)
  omega
/-- one turn of Euclid's loop -/
theorem gcd_turn {a b : Int} (ha : 0 ≤ a) (hb : 0 ≤ b) : Int.gcd b (a % b) = Int.gcd a b := by
  unfold Int.gcd
  rw [Int.natAbs_emod_of_nonneg ha, Nat.gcd_comm b.natAbs, ← Nat.gcd_rec, Nat.gcd_comm]
/-- what may be divided by -/
def lim : Nat := 9000
theorem lim_eq : lim = 9000 := rfl
/-- the sum of the reciprocals; the parallel sum -/
def isum (qs : List Rat) : Rat := (qs.map fun q => q⁻¹).sum
def psum (qs : List Rat) : Rat := (isum qs)⁻¹
theorem isum_nil : isum [] = 0 := rfl
theorem isum_cons (q : Rat) (qs : List Rat) : isum (q :: qs) = q⁻¹ + isum qs := by unfold isum; rw [List.map_cons, List.sum_cons]
theorem isum_append (a b : List Rat) : isum (a ++ b) = isum a + isum b := by
  induction a with
  | nil => rw [List.nil_append, isum_nil, Rat.zero_add]
  | cons q a ih => rw [List.cons_append, isum_cons, isum_cons, ih, Rat.add_assoc]
theorem isum_pos {qs : List Rat} (h : ∀ q ∈ qs, 0 < q) (hn : qs ≠ []) : 0 < isum qs := by
  induction qs with
  | nil => exact absurd rfl hn
  | cons q qs ih =>
    rw [isum_cons]
    have h1 : 0 < q⁻¹ := Rat.inv_pos.mpr (h q List.mem_cons_self)
    cases qs with
    | nil => rw [isum_nil, Rat.add_zero]; exact h1
    | cons r qs => exact add_pos h1 (ih (fun x hx => h x (List.mem_cons_of_mem _ hx)) (by simp))
theorem psum_pos {qs : List Rat} (h : ∀ q ∈ qs, 0 < q) (hn : qs ≠ []) : 0 < psum qs := Rat.inv_pos.mpr (isum_pos h hn)
theorem isum_sz {n : Nat} {qs : List Rat} (hp : ∀ q ∈ qs, 0 < q) (h : ∀ q ∈ qs, sz n q) (hn : qs ≠ []) : sz ((n + 1) * qs.length) (isum qs) := by
  induction qs with
  | nil => exact absurd rfl hn
  | cons q qs ih =>
    rw [isum_cons]
    have h1 := sz_inv (hp q List.mem_cons_self) (h q List.mem_cons_self)
    cases qs with
    | nil =>
      rw [isum_nil, Rat.add_zero]
      exact h1.mono (by simp)
    | cons r qs =>
      have h2 := ih (fun x hx => hp x (List.mem_cons_of_mem _ hx)) (fun x hx => h x (List.mem_cons_of_mem _ hx)) (by simp)
      refine (sz_add h1 h2).mono ?_
      rw [List.length_cons (a := q), Nat.mul_add]
      omega
theorem psum_sz {n : Nat} {qs : List Rat} (hp : ∀ q ∈ qs, 0 < q) (h : ∀ q ∈ qs, sz n q) (hn : qs ≠ []) : sz ((n + 1) * qs.length) (psum qs) := sz_inv (isum_pos hp hn) (isum_sz hp h hn)
theorem sz_quo {a b : Nat} {p q : Rat} (hq : 0 < q) (sp : sz a p) (sq : sz b q) : sz (a + b) (p / q) := by rw [Rat.div_def]; exact sz_mul sp (sz_inv hq sq)
theorem ne_frF {p q : Rat} (h : p = q) : (!PyData.eqv (fr p) (fr q)) = false := by rw [eqv_fr, decide_eq_true h]; rfl
theorem eq_frT {p q : Rat} (h : p = q) : PyData.eqv (fr p) (fr q) = true := by rw [eqv_fr, decide_eq_true h]
end TB

end
-- TB7
section
set_option Elab.async false
set_option linter.all false
set_option maxRecDepth 100000
set_option maxHeartbeats 2000000
/-! TB7: the rules in a form that is applied by the shape of the code alone: the answer's kind is told by a relation of its own. -/
namespace TB
open PySem L2 PyProof.Rows
section
variable {X : Cx} {P : Program} {w : World} {K : PySem.W.Frag} {mg : Str → Option Value} {base : Heap} {N : List Str} {sc : Scope} {lv : Nat} {tg e : Expr} {te : TE}
/-- a tuple or a list is walked -/
def iSeq (K : PySem.W.Frag) (tl : TE) : TI := fun σ H R => tl σ H fun x H1 => (∃ a, x = .ref a ∧ (∃ xs, SqL K H1 a xs) ∧ R (Itl K a) H1) ∨ ∃ a, x = .ref a ∧ (∃ xs, SqT K H1 a xs) ∧ R (Itt K a) H1
theorem q_iSeq (C : Ctx X P w K mg base N sc lv) (h : PE X e te) : PI X tg e (iSeq K te) := by
  have := C.hK; subst this
  refine ⟨fun pins s σ H R I hw => ?_⟩
  refine thn (h.run pins s σ H _ I hw) fun v s1 ⟨x, H1, I1, r1, q1⟩ => ?_
  rcases q1 with ⟨a, e, ⟨xs, hq⟩, q⟩ | ⟨a, e, ⟨xs, hq⟩, q⟩
  · subst e
    cases r1
    obtain ⟨its, rv, p, hz⟩ := I1.list hq
    refine wpAny_pyIter_list p.isList ?_
    refine ⟨s1.heap.objs.size, [s1.heap.objs.size], _, _, H1, rfl, I1.kept (t' := s1.toks) fun b o e => Heap.get?_push_of_some _ e, turn_list a _, ⟨_, Heap.get?_push_size _ rfl, rfl, rfl⟩, fun b hb => ?_, q⟩
    have e : b = s1.heap.objs.size := by simpa using hb
    subst e
    exact I1.fpOk (Nat.le_refl _) (I1.hok.fresh (Nat.le_refl _))
  · subst e
    cases r1
    obtain ⟨its, rv, p, hz⟩ := I1.tuple hq
    refine wpAny_pyIter_tuple (show s1.heap.IsTuple a its.toArray from p) ?_
    refine ⟨s1.heap.objs.size, [s1.heap.objs.size], _, _, H1, rfl, I1.kept (t' := s1.toks) fun b o e => Heap.get?_push_of_some _ e, turn_tuple a _, ⟨_, Heap.get?_push_size _ rfl, rfl, rfl⟩, fun b hb => ?_, q⟩
    have e : b = s1.heap.objs.size := by simpa using hb
    subst e
    exact I1.fpOk (Nat.le_refl _) (I1.hok.fresh (Nat.le_refl _))
end
section
variable {K : PySem.W.Frag} {Γ Γ' : Gm} {O O1 O2 O3 : OH} {ta tb te : TE} {w x y : W} {tr tk : TA} {ws zs : List W} {ds es : List PyData} {d : PyData} {i j : Int}
/-- isinstance by data -/
def isIntD : PyData → Bool
  | .int _ => true
  | .bool _ => true
  | _ => false
theorem kit_int (d : PyData) : kitB (tyD d) "int" = some (isIntD d) := by cases d <;> (simp only [tyD, isIntD]; decide +kernel)
def isBoolD : PyData → Bool
  | .bool _ => true
  | _ => false
theorem kit_bool (d : PyData) : kitB (tyD d) "bool" = some (isBoolD d) := by cases d <;> (simp only [tyD, isBoolD]; decide +kernel)
def isStrD : PyData → Bool
  | .str _ => true
  | _ => false
theorem kit_str (d : PyData) : kitB (tyD d) "str" = some (isStrD d) := by cases d <;> (simp only [tyD, isStrD]; decide +kernel)
def isTupleD : PyData → Bool
  | .tuple _ => true
  | _ => false
theorem kit_tuple (d : PyData) : kitB (tyD d) "tuple" = some (isTupleD d) := by cases d <;> (simp only [tyD, isTupleD]; decide +kernel)
def isListD : PyData → Bool
  | .list _ => true
  | _ => false
theorem kit_list (d : PyData) : kitB (tyD d) "list" = some (isListD d) := by cases d <;> (simp only [tyD, isListD]; decide +kernel)
def isDictD : PyData → Bool
  | .dict _ => true
  | _ => false
theorem kit_dict (d : PyData) : kitB (tyD d) "dict" = some (isDictD d) := by cases d <;> (simp only [tyD, isDictD]; decide +kernel)
/-- a new object handed back -/
theorem rn_retO {D : Dn} {mo : MO} (h : En K Γ O te mo O1) (k : ∀ p, D.rt (.own p) ((p, mo) :: O1)) : Rn K Γ O (tRet te) D := fun F G Z σ H hf hs E he =>
  h F G Z σ H hf hs _ fun p Z1 H1 s1 h1 => he.rt _ _ _ Z1 H1 (k p) s1 h1 rfl
/-- if t: .., which is not entered -/
theorem rn_guard {c : TT} {t u : TS} {b : Bool} {D : Dn} (h : Et K Γ O c b O1) (hb : b = false) (k : Rn K Γ O1 u D) : Rn K Γ O (tSeq (tIfS c t tNext) u) D := by
  subst hb; exact rn_seq (rn_if h (fun z => by cases z) (fun _ => rn_next k))
theorem rn_guardL {c : TT} {t : TS} {b : Bool} {D : Dn} (h : Et K Γ O c b O1) (hb : b = false) (k : D.nx Γ O1) : Rn K Γ O (tIfS c t tNext) D := by
  subst hb; exact rn_if h (fun z => by cases z) (fun _ => rn_next k)
/-- x = e; then the rest -/
theorem rn_let {i : Nat} {u : TS} {D : Dn} (h : Ed K Γ O te w O1) (k : Rn K (Γ.set i (some w)) O1 u D) : Rn K Γ O (tSeq (tAsg te (gName i)) u) D := rn_seq (rn_asg h k)
theorem rn_let2 {i j : Nat} {u : TS} {D : Dn} (h : Ea K Γ O tr [x, y] O1) (k : Rn K ((Γ.set i (some x)).set j (some y)) O1 u D) : Rn K Γ O (tSeq (tPar i j tr) u) D := rn_seq (rn_par h k)
theorem rn_let3 {i j l : Nat} {u : TS} {D : Dn} {z : W} (h : Ea K Γ O tr [x, y, z] O1) (k : Rn K (((Γ.set i (some x)).set j (some y)).set l (some z)) O1 u D) : Rn K Γ O (tSeq (tPar3 i j l tr) u) D := rn_seq (rn_par3 (t := u) h k)
theorem rn_do {u : TS} {D : Dn} (h : Ed K Γ O te w O1) (k : Rn K Γ O1 u D) : Rn K Γ O (tSeq (tDrop te) u) D := rn_seq (rn_drop h k)
theorem rn_is {D : Dn} {w' : W} {O' : OH} (h : Ed K Γ O te w O1) (e : w = w') (eo : O1 = O') : Rn K Γ O (tRet te) (toRet w' O') := rn_ret h ⟨e, eo⟩
/-- what is owned may be forgotten -/
theorem HFit.forget {F : Hp} {G : Addr → Prop} {Z H : Hp} (h : HFit K F G Z O H) : HFit K F G Z [] H := ⟨h.ex, h.fr, fun _ _ z => (by cases z), List.nodup_nil, h.zc⟩
theorem rn_forget {t : TS} {D : Dn} (h : Rn K Γ [] t D) : Rn K Γ O t D := fun F G Z σ H hf hs E he => h F G Z σ H hf.forget hs E he
/-- the three questions of a while's turn -/
theorem wh {c : TT} {b : Bool} {P1 P2 : OH → Prop} (h : Et K Γ O c b O1) (k1 : b = true → P1 O1) (k2 : b = false → P2 O1) : ∃ b O2, Et K Γ O c b O2 ∧ (b = true → P1 O2) ∧ (b = false → P2 O2) := ⟨b, O1, h, k1, k2⟩
/-- data that are walked -/
inductive SeqD : PyData → List PyData → Prop
  | tup (ds : List PyData) : SeqD (.tuple ds) ds
  | lst (ds : List PyData) : SeqD (.list ds) ds
theorem ei_seqT' (h : Ed K Γ O te (.dat (.tuple ds)) O1) : Ei K Γ O (iSeq K te) (dats ds) anyO O1 := fun F G Z σ H hf hs R q => h F G Z σ H hf hs _ fun v Z1 H1 s1 h1 r1 => by
  cases r1 with
  | @tup a xs _ hq r => exact Or.inr ⟨a, rfl, ⟨xs, same_t h1.ex hq⟩, q _ Z1 H1 s1 h1 (walk_rp walk_tup (fun H s => same_t s hq) (of_rpAll r))⟩
theorem ei_seqL' (h : Ed K Γ O te (.dat (.list ds)) O1) : Ei K Γ O (iSeq K te) (dats ds) anyO O1 := fun F G Z σ H hf hs R q => h F G Z σ H hf hs _ fun v Z1 H1 s1 h1 r1 => by
  cases r1 with
  | @lst a xs _ hq r => exact Or.inl ⟨a, rfl, ⟨xs, same_l h1.ex hq⟩, q _ Z1 H1 s1 h1 (walk_rp walk_list (fun H s => same_l s hq) (of_rpAll r))⟩
theorem ei_seq (h : Ed K Γ O te (.dat d) O1) (hd : SeqD d ds) : Ei K Γ O (iSeq K te) (dats ds) anyO O1 := by
  cases hd with
  | tup ds => exact ei_seqT' h
  | lst ds => exact ei_seqL' h
theorem ei_seqO {p : Addr} (h : Ed K Γ O te (.own p) O1) (hk : (p, .lst ws) ∈ O1) : Ei K Γ O (iSeq K te) ws (fun O => (p, .lst ws) ∈ O) O1 := fun F G Z σ H hf hs R q =>
  h F G Z σ H hf hs _ fun v Z1 H1 s1 h1 r1 => by
    have hh := ei_own (K := K) (Γ := Γ) (O := O1) (te := tC v) (O1 := O1) (p := p) (ws := ws) (fun F G Z σ H hf hs Q q => q _ Z H (Same.refl _) hf r1) hk F G Z1 σ H1 h1 (hs.mono s1) (fun J H' => R J H') fun J Z' H' s' h' wk => q J Z' H' (s1.trans s') h' wk
    obtain ⟨a, e, xs, r⟩ := hh
    exact Or.inl ⟨a, e, xs, r⟩
theorem ei_enum (h : Ea K Γ O tr [.dat d] O1) (hd : SeqD d ds) : Ei K Γ O (iEnumA K tr) (dats (enumD ds)) anyO O1 := by
  cases hd with
  | tup ds => exact ei_enumT h
  | lst ds => exact ei_enumL h
inductive AddOk : W → W → W → Prop
  | int {i j : Int} : AddOk (.dat (.int i)) (.dat (.int j)) (.dat (.int (i + j)))
  | tup {ds es : List PyData} (hz : ds.length + es.length ≤ sizeLine) : AddOk (.dat (.tuple ds)) (.dat (.tuple es)) (.dat (.tuple (ds ++ es)))
  | lst {ds es : List PyData} (hz : ds.length + es.length ≤ sizeLine) : AddOk (.dat (.list ds)) (.dat (.list es)) (.dat (.list (ds ++ es)))
  | str {a b : Str} (hz : a.length + b.length ≤ sizeLine) : AddOk (.dat (.str a)) (.dat (.str b)) (.dat (.str (a ++ b)))
theorem ed_addA (ha : Ed K Γ O ta x O1) (hb : Ed K Γ O1 tb y O2) (h : AddOk x y w) : Ed K Γ O (tOp (rAddA K) ta tb) w O2 := by
  cases h with
  | int => exact ed_addI ha hb
  | tup hz => exact ed_addT ha hb hz
  | lst hz => exact (en_addL ha hb hz).ed
  | str hz => exact ed_addS ha hb hz
inductive MulOk : W → W → W → Prop
  | int {i j : Int} (h : CMulW i j) : MulOk (.dat (.int i)) (.dat (.int j)) (.dat (.int (i * j)))
  | tup {ds : List PyData} {j : Int} (hne : ds ≠ []) (h1 : 1 ≤ j) (h2 : j ≤ 1000) (hz : ds.length ≤ 1000) : MulOk (.dat (.tuple ds)) (.dat (.int j)) (.dat (.tuple (List.replicate j.toNat ds).flatten))
theorem ed_mulA (ha : Ed K Γ O ta x O1) (hb : Ed K Γ O1 tb y O2) (h : MulOk x y w) : Ed K Γ O (tOp (rMulA K) ta tb) w O2 := by
  cases h with
  | int h => exact ed_mulI ha hb h
  | tup a b c e => exact ed_mulT ha hb a b c e
inductive IxOk (O : OH) : W → W → W → Prop
  | tup {ds : List PyData} {i : Int} {d : PyData} (h : atI ds i = some d) : IxOk O (.dat (.tuple ds)) (.dat (.int i)) (.dat d)
  | lst {ds : List PyData} {i : Int} {d : PyData} (h : atI ds i = some d) : IxOk O (.dat (.list ds)) (.dat (.int i)) (.dat d)
  | str {x : Str} {i : Int} {c : Nat} (hz : x.length ≤ sizeLine) (h : atI x.cps.toList i = some c) : IxOk O (.dat (.str x)) (.dat (.int i)) (.dat (.str ⟨#[c]⟩))
  | own {p : Addr} {ws : List W} {i : Int} {w : W} {k : Nat} (hk : O[k]? = some (p, .lst ws)) (h : atI ws i = some w) : IxOk O (.own p) (.dat (.int i)) w
theorem ed_ixA (ha : Ed K Γ O ta x O1) (hb : Ed K Γ O1 tb y O2) (h : IxOk O2 x y w) : Ed K Γ O (tOp (rIx K) ta tb) w O2 := by
  cases h with
  | tup h => exact ed_ixT ha hb h
  | lst h => exact ed_ixL ha hb h
  | str hz h => exact ed_ixS ha hb hz h
  | own hk h => exact ed_ixO ha hb hk h
inductive DatsOk : List W → List PyData → Prop
  | nil : DatsOk [] []
  | cons {d : PyData} {ws : List W} {ds : List PyData} (h : DatsOk ws ds) : DatsOk (.dat d :: ws) (d :: ds)
theorem DatsOk.eq (h : DatsOk ws ds) : ws = dats ds := by
  induction h with
  | nil => rfl
  | cons h ih => rw [ih]; rfl
theorem ed_tupA (h : Ea K Γ O tr ws O1) (hd : DatsOk ws ds) (hl : ds.length ≤ sizeLine) : Ed K Γ O (tTup tr) (.dat (.tuple ds)) O1 := by
  have := hd.eq; subst this; exact ed_tup h hl
theorem ed_lstA (h : Ea K Γ O tr ws O1) (hd : DatsOk ws ds) (hl : ds.length ≤ sizeLine) : Ed K Γ O (tLst tr) (.dat (.list ds)) O1 := by
  have := hd.eq; subst this; exact (en_lst h (by rw [dats_length]; exact hl)).ed
theorem ed_callA {R : List PyData → PyData → Prop} {E : XK} (ha : Ea K Γ O tr ws O1) (hd : DatsOk ws ds) (hR : R ds d) : Ed K Γ O (tCall (spR K (pure1 R)) [] E tr) (.dat d) O1 := by
  have := hd.eq; subst this; exact ed_call ha hR
/-- a def over an owned object, the k-th -/
theorem ed_callS {R : List W → OH → W → OH → Prop} {E : XK} {A B : OH} (ha : Ea K Γ O tr ws (A ++ O1)) (hR : R ws O1 w O2) : Ed K Γ O (tCall (spR K R) [] E tr) w (A ++ O2) := ed_callR ha hR
theorem ed_callS0 {R : List W → OH → W → OH → Prop} {E : XK} (ha : Ea K Γ O tr ws O1) (hR : R ws O1 w O2) : Ed K Γ O (tCall (spR K R) [] E tr) w O2 := ed_callR (A := []) ha hR
theorem en_callS0 {R : List W → OH → MO → OH → Prop} {E : XK} {mo : MO} (ha : Ea K Γ O tr ws O1) (hR : R ws O1 mo O2) : En K Γ O (tCall (spN K R) [] E tr) mo O2 := en_callR (A := []) ha hR
theorem en_call0 {R : List W → OH → MO → OH → Prop} {E : XK} {mo : MO} (ha : Ea K Γ O tr ws O1) (hR : R ws [] mo []) : En K Γ O (tCall (spN K R) [] E tr) mo O1 := by
  have h := en_callR (E := E) (A := O1) (O1 := []) (O2 := []) (R := R) (mo := mo) (by rw [List.append_nil]; exact ha) hR
  rw [List.append_nil] at h
  exact h
theorem ed_callDA {R : List PyData → PyData → Prop} {E : XK} {dvs : List V} (ha : Ea K Γ O tr ws O1) (hd : DatsOk ws ds) (hv : ∀ Z, RpAll K Z dvs es) (hR : R (ds ++ es) d) : Ed K Γ O (tCall (spR K (pure1 R)) dvs E tr) (.dat d) O1 := by
  have := hd.eq; subst this; exact ed_callD ha hv hR
theorem ed_callNA {R : List PyData → PyData → Prop} {E : XK} {n m : Nat} {gV : List V → List V → List V} {fs : List PyData} (ha : Ea K Γ O tr ws O1) (hk : Ea K Γ O1 tk zs O2) (h1 : DatsOk ws ds) (h2 : DatsOk zs es) (hn : ds.length = n) (hm : es.length = m)
    (hg : ∀ Z vs zs, RpAll K Z vs ds → RpAll K Z zs es → RpAll K Z (gV vs zs) fs) (hR : R fs d) : Ed K Γ O (tCallN n m (spR K (pure1 R)) gV E tr tk) (.dat d) O2 := by
  have := h1.eq; subst this; have := h2.eq; subst this; exact ed_callN ha hk hn hm hg hR
theorem ed_callN0A {R : List PyData → PyData → Prop} {E : XK} {m : Nat} {gV : List V → List V → List V} {fs : List PyData} (hk : Ea K Γ O tk zs O1) (h2 : DatsOk zs es) (hm : es.length = m)
    (hg : ∀ Z zs, RpAll K Z zs es → RpAll K Z (gV [] zs) fs) (hR : R fs d) : Ed K Γ O (tCallN0 m (spR K (pure1 R)) gV E tk) (.dat d) O1 := by
  have := h2.eq; subst this; exact ed_callN0 hk hm hg hR
inductive LenOk (O : OH) : W → Int → Prop
  | tup {ds : List PyData} : LenOk O (.dat (.tuple ds)) ds.length
  | lst {ds : List PyData} : LenOk O (.dat (.list ds)) ds.length
  | str {x : Str} (hz : x.length ≤ sizeLine) : LenOk O (.dat (.str x)) x.length
  | own {p : Addr} {ws : List W} {k : Nat} (hk : O[k]? = some (p, .lst ws)) : LenOk O (.own p) ws.length
theorem ed_lenA (h : Ea K Γ O tr [x] O1) (hl : LenOk O1 x i) : Ed K Γ O (tCB (rLenA K) tr) (.dat (.int i)) O1 := by
  cases hl with
  | tup => exact ed_lenT h
  | lst => exact ed_lenL h
  | str hz => exact ed_lenS h hz
  | own hk => exact ed_lenO h hk
theorem ed_tupleA (h : Ea K Γ O tr [.dat d] O1) (hd : SeqD d ds) : Ed K Γ O (tCB (rTupOf K) tr) (.dat (.tuple ds)) O1 := by
  cases hd with
  | tup ds => exact ed_tupleT h
  | lst ds => exact ed_tupleL h
theorem en_listA (h : Ea K Γ O tr [.dat d] O1) (hd : SeqD d ds) : En K Γ O (tCB (rLstOf K) tr) (.lst (dats ds)) O1 := by
  cases hd with
  | tup ds => exact en_listT h
  | lst ds => exact en_listL h
theorem ed_listA (h : Ea K Γ O tr [.dat d] O1) (hd : SeqD d ds) : Ed K Γ O (tCB (rLstOf K) tr) (.dat (.list ds)) O1 := (en_listA h hd).ed
inductive SlOk (lo hi : Option Int) : PyData → PyData → Prop
  | tup {ds : List PyData} : SlOk lo hi (.tuple ds) (.tuple (cutD ds lo hi))
  | lst {ds : List PyData} : SlOk lo hi (.list ds) (.list (cutD ds lo hi))
theorem ed_sliceA {tl th : TO} {lo hi : Option Int} {e : PyData} (h : Ed K Γ O te (.dat d) O1) (hl : Eo K Γ O1 tl lo O2) (hh : Eo K Γ O2 th hi O3) (hs : SlOk lo hi d e) : Ed K Γ O (tSl (rSlB K) te tl th) (.dat e) O3 := by
  cases hs with
  | tup => exact ed_sliceT h hl hh
  | lst => exact (en_sliceL h hl hh).ed
theorem ed_revLA (h : Ed K Γ O te (.dat (.list ds)) O1) : Ed K Γ O (tRevL K te) (.dat (.list ds.reverse)) O1 := (en_revL h).ed
theorem ed_allA {bs : List Bool} {d : PyData} (h : Ea K Γ O tr [.dat d] O1) (hd : d = .list (bs.map PyData.bool)) : Ed K Γ O (tCB (rAll K) tr) (.dat (.bool (bs.all id))) O1 := by
  subst hd; exact ed_all h
theorem ed_anyA {bs : List Bool} {d : PyData} (h : Ea K Γ O tr [.dat d] O1) (hd : d = .list (bs.map PyData.bool)) : Ed K Γ O (tCB (rAny K) tr) (.dat (.bool (bs.any id))) O1 := by
  subst hd; exact ed_any h
/-- a comprehension over data, as data -/
theorem ed_map {wi : TI} {g : TG} {vs : List Nat} {ds : List PyData} {f : PyData → PyData} (hi : Ei K Γ O wi (dats ds) anyO O1) (hz : ds.length ≤ sizeLine)
    (hs : ∀ (n : Nat) (d : PyData), ds[n]? = some d → ∃ Γ2, TgC K vs g (.dat d) (wipeG Γ vs) Γ2 ∧ Ed K Γ2 O1 te (.dat (f d)) O1) : Ed K Γ O (tLc wi g tYes te vs) (.dat (.list (ds.map f))) O1 := (en_map hi hz (fun _ => trivial) hs).ed
theorem LenOk.seq {d : PyData} (h : SeqD d ds) : LenOk O (.dat d) ds.length := by
  cases h with
  | tup => exact .tup
  | lst => exact .lst
theorem IxOk.seq {d e : PyData} {i : Int} (h : SeqD d ds) (he : atI ds i = some e) : IxOk O (.dat d) (.dat (.int i)) (.dat e) := by
  cases h with
  | tup => exact .tup he
  | lst => exact .lst he
theorem SlOk.seq {d : PyData} {lo hi : Option Int} (h : SeqD d ds) : ∃ e, SlOk lo hi d e ∧ SeqD e (cutD ds lo hi) := by
  cases h with
  | tup => exact ⟨_, .tup, .tup _⟩
  | lst => exact ⟨_, .lst, .lst _⟩
theorem cut_from {α : Type} (xs : List α) (k : Nat) : cutD xs (some (k : Int)) none = xs.drop k := by
  unfold cutD
  rw [HT.sIx_nat, HT.sIx_none]
  by_cases h : k ≤ xs.length
  · rw [Nat.min_eq_left h, ← List.length_drop, List.take_length]
  · rw [Nat.min_eq_right (by omega), List.drop_of_length_le (Nat.le_refl _), List.drop_of_length_le (by omega)]
    simp
theorem cut_to {α : Type} (xs : List α) (k : Nat) : cutD xs none (some (k : Int)) = xs.take k := by
  unfold cutD
  rw [HT.sIx_nat, HT.sIx_none, Nat.sub_zero, List.drop_zero]
  by_cases h : k ≤ xs.length
  · rw [Nat.min_eq_left h]
  · rw [Nat.min_eq_right (by omega), List.take_of_length_le (Nat.le_refl _), List.take_of_length_le (by omega)]
theorem at_nat {α : Type} {xs : List α} {k : Nat} {x : α} (h : xs[k]? = some x) : atI xs (k : Int) = some x := atI_nat h
end
end TB

end
-- TB8
section
set_option Elab.async false
set_option linter.all false
set_option maxRecDepth 100000
set_option maxHeartbeats 4000000
/-! TB8: repr of nested data. -/
namespace TB
open PySem L2
open PyProof.Rows (IsTup)
/-! ### data in the heap -/
section
variable {X : Cx} {pins : List (Addr × Obj)} {σ : L2.St} {H : Hp} {s : Shared}
mutual
theorem reads_of (I : Inv X pins σ H s) : ∀ {v : V} {d : PyData} {u : Value}, Rp X.K H v d → RelV v u → d.hasDict = false → ∃ as, Reads s.heap u d as
  | _, _, _, .non, r, _ => by cases r; exact ⟨_, .none⟩
  | _, _, _, .bl b, r, _ => by cases r; exact ⟨_, .bool b⟩
  | _, _, _, .int i, r, _ => by obtain ⟨t, rfl⟩ := r; exact ⟨_, .int i t⟩
  | _, _, _, .str x, r, _ => by obtain ⟨t, rfl⟩ := r; exact ⟨_, .str x t⟩
  | _, _, _, .lst h q, r, z => by
    cases r
    obtain ⟨its, rv, ⟨o, n, h1, h2, _, h3⟩, _⟩ := I.list h
    obtain ⟨as, w⟩ := readsAll_of I q rv (by simpa [PyData.hasDict] using z)
    exact ⟨_, .list h1 h2 h3 (by simpa using w)⟩
  | _, _, _, .tup h q, r, z => by
    cases r
    obtain ⟨its, rv, ⟨o, h1, h2, n, h3⟩, _⟩ := I.tuple h
    obtain ⟨as, w⟩ := readsAll_of I q rv (by simpa [PyData.hasDict] using z)
    exact ⟨_, .tuple h1 h2 h3 (by simpa using w)⟩
  | _, _, _, .dct h q, r, z => by simp [PyData.hasDict] at z
theorem readsAll_of (I : Inv X pins σ H s) : ∀ {vs : List V} {ds : List PyData} {us : List Value}, RpAll X.K H vs ds → Vals vs us → PyData.hasDictAll ds = false → ∃ as, ReadsAll s.heap us ds as
  | _, _, _, .nil, r, _ => by cases r; exact ⟨_, .nil⟩
  | _, _, _, .cons (d := dd) (ds := dt) h q, r, z => by
    cases r with
    | cons r1 r2 =>
      have z' : PyData.hasDict dd = false ∧ PyData.hasDictAll dt = false := by simpa [PyData.hasDictAll] using z
      obtain ⟨a1, w1⟩ := reads_of I h r1 z'.1
      obtain ⟨a2, w2⟩ := readsAll_of I q r2 z'.2
      exact ⟨_, .cons w1 w2⟩
end
end
/-- data whose repr fits -/
structure Sh (w k : Nat) (d : PyData) : Prop where
  sh : d.showable = true
  nd : d.hasDict = false
  dp : d.depth ≤ k
  ln : d.shown.length ≤ w
structure ShAll (w k : Nat) (ds : List PyData) : Prop where
  sh : PyData.showableAll ds = true
  nd : PyData.hasDictAll ds = false
  dp : PyData.depthAll ds ≤ k
  ln : ((PyData.shownAll ds).map (·.length)).sum + 2 * ds.length ≤ w
theorem Sh.mono {w k w' k' : Nat} {d : PyData} (h : Sh w k d) (hw : w ≤ w') (hk : k ≤ k') : Sh w' k' d := ⟨h.sh, h.nd, Nat.le_trans h.dp hk, Nat.le_trans h.ln hw⟩
theorem Sh.none {k : Nat} : Sh 4 k .none := ⟨rfl, rfl, Nat.zero_le _, by simp only [PyData.shown]; decide +kernel⟩
theorem Sh.bool {k : Nat} (b : Bool) : Sh 5 k (.bool b) := ⟨rfl, rfl, Nat.zero_le _, by simp only [PyData.shown]; cases b <;> decide +kernel⟩
theorem Sh.int {k m : Nat} {i : Int} (h : i.natAbs.log2 < m) (hm : m ≤ 1920) : Sh (m + 1) k (.int i) := ⟨by simp only [PyData.showable, decide_eq_true_eq]; omega, rfl, Nat.zero_le _, by
  simp only [PyData.shown]
  show (Str.ofString (toString i)).length ≤ _
  rw [ofString_length]
  exact int_text_length_le (by omega) h⟩
theorem ShAll.nil {k : Nat} : ShAll 0 k [] := ⟨rfl, rfl, Nat.zero_le _, by simp [PyData.shownAll]⟩
theorem ShAll.cons {w1 w2 k : Nat} {d : PyData} {ds : List PyData} (h : Sh w1 k d) (r : ShAll w2 k ds) : ShAll (w1 + 2 + w2) k (d :: ds) :=
  ⟨by simp [PyData.showableAll, h.sh, r.sh], by simp [PyData.hasDictAll, h.nd, r.nd], by simp only [PyData.depthAll]; have := h.dp; have := r.dp; omega, by
    have := h.ln; have := r.ln
    simp only [PyData.shownAll, List.map_cons, List.sum_cons, List.length_cons]
    omega⟩
theorem ShAll.each {w k : Nat} {ds : List PyData} (h : ∀ d ∈ ds, Sh w k d) : ShAll ((w + 2) * ds.length) k ds := by
  induction ds with
  | nil => exact ShAll.nil
  | cons d ds ih =>
    have := ShAll.cons (h d List.mem_cons_self) (ih fun e he => h e (List.mem_cons_of_mem _ he))
    rw [List.length_cons, Nat.mul_succ, Nat.add_comm]
    exact this
theorem shownAll_len : ∀ ds : List PyData, (PyData.shownAll ds).length = ds.length
  | [] => rfl
  | _ :: ds => by simp [PyData.shownAll, shownAll_len ds]
theorem Sh.list {w k : Nat} {ds : List PyData} (h : ShAll w k ds) : Sh (w + 3) (k + 1) (.list ds) :=
  ⟨by simpa [PyData.showable] using h.sh, by simpa [PyData.hasDict] using h.nd, by simp only [PyData.depth]; have := h.dp; omega, by
    simp only [PyData.shown]
    have h1 := listText_len_le (PyData.shownAll ds)
    have h2 := h.ln
    rw [shownAll_len] at h1
    omega⟩
theorem Sh.tup {w k : Nat} {ds : List PyData} (h : ShAll w k ds) : Sh (w + 3) (k + 1) (.tuple ds) :=
  ⟨by simpa [PyData.showable] using h.sh, by simpa [PyData.hasDict] using h.nd, by simp only [PyData.depth]; have := h.dp; omega, by
    simp only [PyData.shown]
    have h1 := tupleText_len_le (PyData.shownAll ds)
    have h2 := h.ln
    rw [shownAll_len] at h1
    omega⟩
theorem sizeLine_val : sizeLine = 16777216 := by decide
theorem boot_repr : bootBuiltins "repr" = some (.builtin "repr") := by decide +kernel
def Shows (d : PyData) : Prop := Sh sizeLine 40 d
/-- what repr gives -/
def rRepr (K : PySem.W.Frag) : List V → Hp → VK → Prop := fun xs H Q => ∃ v d, xs = [v] ∧ Rp K H v d ∧ Shows d ∧ Q (.str d.shown) H
section
variable {X : Cx}
theorem call_reprD {k : Nat} (hr : Room k X.A) (hG : X.A.guards = some []) : CallR X (.builtin "repr") (rRepr X.K) := by
  intro pins s σ H xs us Q I r h
  obtain ⟨v, d, rfl, rp, S, q⟩ := h
  obtain ⟨u, rfl, rv⟩ := vals1 r
  have hu := hr.units
  cases rp with
  | non => cases rv; exact PySem.P.repr_of_none ⟨.str _, H, I.tok _, ⟨_, rfl⟩, by simpa only [PyData.shown] using q⟩
  | bl b => cases rv; exact PySem.P.repr_of_bool ⟨.str _, H, I.tok _, ⟨_, rfl⟩, by simpa only [PyData.shown] using q⟩
  | int i =>
    obtain ⟨t, rfl⟩ := rv
    exact PySem.P.repr_of_int (by simpa [PyData.showable] using S.sh) ⟨.str _, H, I.tok _, ⟨_, rfl⟩, by simpa only [PyData.shown] using q⟩
  | str x =>
    obtain ⟨t, rfl⟩ := rv
    exact PySem.P.repr_of_str ⟨.str _, H, I.tok _, ⟨_, rfl⟩, by simpa only [PyData.shown] using q⟩ (by simpa only [PyData.shown] using S.ln)
  | lst h a =>
    cases rv
    obtain ⟨its, rv, ⟨o, n, h1, h2, _, h3⟩, _⟩ := I.list h
    have nd := S.nd
    obtain ⟨as, w⟩ := readsAll_of I a rv (by simpa [PyData.hasDict] using nd)
    have dp := S.dp
    simp only [PyData.depth] at dp
    have ln := S.ln
    simp only [PyData.shown] at ln q
    refine call_repr_slot (by omega) ⟨o, h1, h2⟩ F.slot_list_repr.toG ?_
    cases its with
    | nil =>
      cases w
      simp only [PyData.shownAll, listText_nil] at q
      exact call_list_repr_empty ⟨o, h1, h2⟩ h1 h3 ⟨_, _, rfl, ⟨.str _, H, I.tok _, ⟨_, rfl⟩, q⟩⟩
    | cons y l =>
      obtain ⟨bs, hb, hk⟩ := ReprAllK.of_readsAll (prog := X.prog) (w := X.w) w (by simpa [PyData.showable] using S.sh) (fun z => by rw [show PyData.hasDictAll _ = false by simpa [PyData.hasDict] using nd] at z; cases z) (fun t ht => Nat.le_trans (listText_mem_le ht) ln)
      have rd : Reads s.heap _ _ _ := .list h1 h2 h3 (by simpa using w)
      have hna := not_mem_of_deeper rd (by simp only [PyData.depth]; omega) hb
      refine call_list_reprK (h₀ := s.heap) h1 h2 h3 hna (by simpa using hk.length_eq) (fun i z e => hk.item i z (by simpa using e)) (A := X.A.in1) hG (fun b _ => Clear.nil b) (by show X.A.units + 1 + _ < _; omega) (fun _ _ e => e) (fun h' u tk kp => ⟨_, _, rfl, ⟨.str _, H, ?_, ⟨_, rfl⟩, q⟩⟩) ln
      exact I.kept kp
  | tup h a =>
    cases rv
    obtain ⟨its, rv, ⟨o, h1, h2, n, h3⟩, _⟩ := I.tuple h
    have nd := S.nd
    obtain ⟨as, w⟩ := readsAll_of I a rv (by simpa [PyData.hasDict] using nd)
    have dp := S.dp
    simp only [PyData.depth] at dp
    have ln := S.ln
    simp only [PyData.shown] at ln q
    refine call_repr_slot (by omega) ⟨o, h1, h2⟩ F.slot_tuple_repr ?_
    obtain ⟨bs, hb, hk⟩ := ReprAllK.of_readsAll (prog := X.prog) (w := X.w) w (by simpa [PyData.showable] using S.sh) (fun z => by rw [show PyData.hasDictAll _ = false by simpa [PyData.hasDict] using nd] at z; cases z) (fun t ht => Nat.le_trans (tupleText_mem_le ht) ln)
    have rd : Reads s.heap _ _ _ := .tuple h1 h2 h3 (by simpa using w)
    have hna := not_mem_of_deeper rd (by simp only [PyData.depth]; omega) hb
    refine call_tuple_reprK (h₀ := s.heap) h1 h2 h3 hna (by simpa using hk) (A := X.A.in1) hG (fun b _ => Clear.nil b) (by show X.A.units + 1 + _ < _; omega) (fun _ _ e => e) (fun h' u tk kp => ⟨_, _, rfl, ⟨.str _, H, ?_, ⟨_, rfl⟩, q⟩⟩) ln
    exact I.kept kp
  | dct h a => have := S.nd; simp [PyData.hasDict] at this
end
section
variable {X : Cx} {P : Program} {w : World} {K : PySem.W.Frag} {mg : Str → Option Value} {base : Heap} {N : List Str} {sc : Scope} {lv : Nat} {e : Expr} {pos p : Pos} {te : TE}
theorem q_repr {es : List Expr} {tr : TA} (C : Ctx X P w K mg base N sc lv) (hm : mg "repr" = none) (ha : PA X (e :: es) tr) (hg : GK sc "repr" := by rfl) (h1 : starEach (e :: es) X.env = (false, eval e X.env) :: starEach es X.env := by rfl) (h2 : (backTo pos (starEach es X.env)).any (·.1) = false := by rfl) :
    PE X (.Call (.Name "repr" p) (e :: es) [] pos) (tCB (rRepr K) tr) := by
  have := C.hK
  subst this
  exact pe_callB (call_reprD C.room C.grd) (C.gl hg) (by rw [C.hmg]; exact hm) boot_repr ha (by decide) (by decide) h1 h2
end
section
variable {K : PySem.W.Frag} {Γ : Gm} {O O1 : OH} {te : TE}
theorem ed_repr {tr : TA} {d : PyData} (h : Ea K Γ O tr [.dat d] O1) (S : Shows d) : Ed K Γ O (tCB (rRepr K) tr) (.dat (.str d.shown)) O1 := fun F G Z σ H hf hs Q q =>
  h F G Z σ H hf hs _ fun vs Z1 H1 s1 g1 r1 => by
    cases r1 with
    | cons r r' =>
      cases r'
      exact ⟨_, d, rfl, Rp.mono g1.ex r, S, q _ Z1 H1 s1 g1 (.str _)⟩
variable {ta tb tc : TE} {O2 : OH}
theorem ed_chainI {f f' : Int → Int → Bool} {i j k : Int} (ha : Ed K Γ O ta (.dat (.int i)) O1) (hb : Ed K Γ O1 tb (.dat (.int j)) O2) (hc : f i j = true → Ed K Γ O2 tc (.dat (.int k)) O2) : Ed K Γ O (tChain (rI0 fun i j => .bl (f i j)) (rI0 fun i j => .bl (f' i j)) ta tb tc) (.dat (.bool (f i j && f' j k))) O2 := fun F G Z σ H hf hs Q q =>
  ha F G Z σ H hf hs _ fun u Z1 H1 s1 h1 r1 => hb F G Z1 σ H1 h1 (hs.mono s1) _ fun v Z2 H2 s2 h2 r2 => by
    cases r1
    cases r2
    refine ⟨i, j, rfl, rfl, f i j, rfl, ?_⟩
    cases e : f i j with
    | false => exact q _ Z2 H2 (s1.trans s2) h2 (by rw [e]; exact .bl _)
    | true =>
      refine hc e F G Z2 σ H2 h2 ((hs.mono s1).mono s2) _ fun y Z3 H3 s3 h3 r3 => ?_
      cases r3
      exact ⟨j, k, rfl, rfl, q _ Z3 H3 ((s1.trans s2).trans s3) h3 (by rw [e, Bool.true_and]; exact .bl _)⟩
theorem eqv_str_self (x : Str) : PyData.eqv (.str x) (.str x) = true := by simp [PyData.eqv]
end
theorem log2_lt {i n : Nat} (h : i < 2 ^ n) (hn : 0 < n) : i.log2 < n := by
  by_cases h0 : i = 0
  · subst h0; simpa using hn
  · exact (Nat.log2_lt h0).mpr h
theorem sh_fr {n k : Nat} {q : Rat} (h : sz n q) (hn : n ≤ 1920) : Sh (2 * n + 9) (k + 1) (fr q) :=
  (Sh.tup (ShAll.cons (Sh.int (log2_lt h.1 (sz_pos h)) hn) (ShAll.cons (Sh.int (log2_lt h.den (sz_pos h)) hn) ShAll.nil))).mono (by omega) (Nat.le_refl _)
theorem Sh.ok {w k : Nat} {d : PyData} (h : Sh w k d) (hw : w ≤ 16777216) (hk : k ≤ 40) : Shows d := h.mono (by rw [sizeLine_val]; exact hw) hk
end TB

end
set_option Elab.async false
set_option linter.all false
set_option maxRecDepth 100000
set_option maxHeartbeats 2000000
namespace TB
open PySem L2
def top (i : Nat) : Stmt := PySem.Challenge.pw_turnboard_k01_fraction_arithmetic.main.body.getD i (.Pass ⟨0, 0, 0, 0⟩)
abbrev s_is_integer : Stmt := top 5
theorem sc_is_integer : FnScope ["value", "least", "most"] ["value", "least", "most"] (defScope s_is_integer) := ⟨rfl, rfl, rfl, by decide +kernel, rfl, by decide +kernel, by decide +kernel⟩
abbrev s_greatest_common_divisor : Stmt := top 6
theorem sc_greatest_common_divisor : FnScope ["first", "second"] ["first", "second"] (defScope s_greatest_common_divisor) := ⟨rfl, rfl, rfl, by decide +kernel, rfl, by decide +kernel, by decide +kernel⟩
abbrev s_is_fraction : Stmt := top 7
theorem sc_is_fraction : FnScope ["value", "part"] ["value"] (defScope s_is_fraction) := ⟨rfl, rfl, rfl, by decide +kernel, rfl, by decide +kernel, by decide +kernel⟩
abbrev s_reduced : Stmt := top 8
theorem sc_reduced : FnScope ["numerator", "denominator", "divisor"] ["numerator", "denominator"] (defScope s_reduced) := ⟨rfl, rfl, rfl, by decide +kernel, rfl, by decide +kernel, by decide +kernel⟩
abbrev s_make_fraction : Stmt := top 9
theorem sc_make_fraction : FnScope ["numerator", "denominator", "value"] ["numerator", "denominator"] (defScope s_make_fraction) := ⟨rfl, rfl, rfl, by decide +kernel, rfl, by decide +kernel, by decide +kernel⟩
abbrev s_check_two : Stmt := top 10
theorem sc_check_two : FnScope ["first", "second", "position", "value"] ["first", "second"] (defScope s_check_two) := ⟨rfl, rfl, rfl, by decide +kernel, rfl, by decide +kernel, by decide +kernel⟩
abbrev s_reciprocal : Stmt := top 11
theorem sc_reciprocal : FnScope ["value"] ["value"] (defScope s_reciprocal) := ⟨rfl, rfl, rfl, by decide +kernel, rfl, by decide +kernel, by decide +kernel⟩
abbrev s_sum_of_two : Stmt := top 12
theorem sc_sum_of_two : FnScope ["first", "second"] ["first", "second"] (defScope s_sum_of_two) := ⟨rfl, rfl, rfl, by decide +kernel, rfl, by decide +kernel, by decide +kernel⟩
abbrev s_product_of_two : Stmt := top 13
theorem sc_product_of_two : FnScope ["first", "second"] ["first", "second"] (defScope s_product_of_two) := ⟨rfl, rfl, rfl, by decide +kernel, rfl, by decide +kernel, by decide +kernel⟩
abbrev s_add : Stmt := top 14
theorem sc_add : FnScope ["first", "second"] ["first", "second"] (defScope s_add) := ⟨rfl, rfl, rfl, by decide +kernel, rfl, by decide +kernel, by decide +kernel⟩
abbrev s_multiply : Stmt := top 15
theorem sc_multiply : FnScope ["first", "second"] ["first", "second"] (defScope s_multiply) := ⟨rfl, rfl, rfl, by decide +kernel, rfl, by decide +kernel, by decide +kernel⟩
abbrev s_divide : Stmt := top 16
theorem sc_divide : FnScope ["first", "second"] ["first", "second"] (defScope s_divide) := ⟨rfl, rfl, rfl, by decide +kernel, rfl, by decide +kernel, by decide +kernel⟩
abbrev s_parallel_sum : Stmt := top 17
theorem sc_parallel_sum : FnScope ["values", "total", "value", "position"] ["values"] (defScope s_parallel_sum) := ⟨rfl, rfl, rfl, by decide +kernel, rfl, by decide +kernel, by decide +kernel⟩
abbrev s__law_mixed : Stmt := top 19
theorem sc__law_mixed : FnScope ["_law_number", "_law_k"] ["_law_number", "_law_k"] (defScope s__law_mixed) := ⟨rfl, rfl, rfl, by decide +kernel, rfl, by decide +kernel, by decide +kernel⟩
abbrev s__law_stream : Stmt := top 20
theorem sc__law_stream : FnScope ["_law_item", "_law_k"] ["_law_item", "_law_k"] (defScope s__law_stream) := ⟨rfl, rfl, rfl, by decide +kernel, rfl, by decide +kernel, by decide +kernel⟩
abbrev s__law_draw : Stmt := top 21
theorem sc__law_draw : FnScope ["_law_stream_here", "_law_top", "_law_number"] ["_law_stream_here", "_law_top"] (defScope s__law_draw) := ⟨rfl, rfl, rfl, by decide +kernel, rfl, by decide +kernel, by decide +kernel⟩
abbrev s__law_lowest : Stmt := top 22
theorem sc__law_lowest : FnScope ["_law_above", "_law_below", "_law_one", "_law_two"] ["_law_above", "_law_below"] (defScope s__law_lowest) := ⟨rfl, rfl, rfl, by decide +kernel, rfl, by decide +kernel, by decide +kernel⟩
abbrev s__law_fraction : Stmt := top 23
theorem sc__law_fraction : FnScope ["_law_stream_here", "_law_way"] ["_law_stream_here"] (defScope s__law_fraction) := ⟨rfl, rfl, rfl, by decide +kernel, rfl, by decide +kernel, by decide +kernel⟩
abbrev s__law_pair_right : Stmt := top 24
theorem sc__law_pair_right : FnScope ["_law_left", "_law_right", "_law_due", "_law_told", "_law_a", "_law_b", "_law_c", "_law_d"] ["_law_left", "_law_right"] (defScope s__law_pair_right) := ⟨rfl, rfl, rfl, by decide +kernel, rfl, by decide +kernel, by decide +kernel⟩
abbrev s__law_parallel_right : Stmt := top 25
theorem sc__law_parallel_right : FnScope ["_law_some", "_law_due", "_law_above", "_law_below", "_law_a", "_law_b"] ["_law_some"] (defScope s__law_parallel_right) := ⟨rfl, rfl, rfl, by decide +kernel, rfl, by decide +kernel, by decide +kernel⟩
abbrev s__law_lowest_right : Stmt := top 26
theorem sc__law_lowest_right : FnScope ["_law_stream_here", "_law_left", "_law_factor", "_law_wide", "_law_told"] ["_law_stream_here", "_law_left"] (defScope s__law_lowest_right) := ⟨rfl, rfl, rfl, by decide +kernel, rfl, by decide +kernel, by decide +kernel⟩
abbrev s__law_integer_right : Stmt := top 27
theorem sc__law_integer_right : FnScope ["_law_stream_here", "_law_number", "_law_told", "_law_due", "_law_low", "_law_high"] ["_law_stream_here", "_law_number"] (defScope s__law_integer_right) := ⟨rfl, rfl, rfl, by decide +kernel, rfl, by decide +kernel, by decide +kernel⟩
abbrev s_law : Stmt := top 28
theorem sc_law : FnScope ["_law_script", "_law_k", "_law_item", "_law_stream_here", "_law_some", "_law_left", "_law_right", "_law_turn"] ["_law_script"] (defScope s_law) := ⟨rfl, rfl, rfl, by decide +kernel, rfl, by decide +kernel, by decide +kernel⟩
structure Top (K : PySem.W.Frag) (mg : Str → Option Value) : Prop where
  t_is_integer : TopF K mg "is_integer" s_is_integer [] [("least", .int 0), ("most", .non)]
  t_greatest_common_divisor : TopF K mg "greatest_common_divisor" s_greatest_common_divisor [] []
  t_is_fraction : TopF K mg "is_fraction" s_is_fraction [] []
  t_reduced : TopF K mg "reduced" s_reduced [] []
  t_make_fraction : TopF K mg "make_fraction" s_make_fraction [] []
  t_check_two : TopF K mg "check_two" s_check_two [] []
  t_reciprocal : TopF K mg "reciprocal" s_reciprocal [] []
  t_sum_of_two : TopF K mg "sum_of_two" s_sum_of_two [] []
  t_product_of_two : TopF K mg "product_of_two" s_product_of_two [] []
  t_add : TopF K mg "add" s_add [] []
  t_multiply : TopF K mg "multiply" s_multiply [] []
  t_divide : TopF K mg "divide" s_divide [] []
  t_parallel_sum : TopF K mg "parallel_sum" s_parallel_sum [] []
  t__law_mixed : TopF K mg "_law_mixed" s__law_mixed [] []
  t__law_stream : TopF K mg "_law_stream" s__law_stream [] []
  t__law_draw : TopF K mg "_law_draw" s__law_draw [] []
  t__law_lowest : TopF K mg "_law_lowest" s__law_lowest [] []
  t__law_fraction : TopF K mg "_law_fraction" s__law_fraction [] []
  t__law_pair_right : TopF K mg "_law_pair_right" s__law_pair_right [] []
  t__law_parallel_right : TopF K mg "_law_parallel_right" s__law_parallel_right [] []
  t__law_lowest_right : TopF K mg "_law_lowest_right" s__law_lowest_right [] []
  t__law_integer_right : TopF K mg "_law_integer_right" s__law_integer_right [] []
  t_law : TopF K mg "law" s_law [] []
  b_all : mg "all" = none
  b_bool : mg "bool" = none
  b_enumerate : mg "enumerate" = none
  b_int : mg "int" = none
  b_isinstance : mg "isinstance" = none
  b_len : mg "len" = none
  b_list : mg "list" = none
  b_range : mg "range" = none
  b_repr : mg "repr" = none
  b_tuple : mg "tuple" = none

local macro_rules | `(tactic| walk_at "e") => `(tactic| first
  | ((with_reducible apply ed_var); exact rfl)
  | with_reducible exact ed_cint
  | with_reducible exact ed_cbl
  | with_reducible exact ed_cnon
  | with_reducible exact ed_cstr
  | with_reducible exact ea_nil
  | with_reducible apply ea_cons
  | with_reducible exact AddOk.int
  | with_reducible apply ed_addA
  | with_reducible apply ed_mulA
  | with_reducible apply MulOk.int
  | with_reducible apply ed_ixA
  | ((with_reducible apply IxOk.tup); exact rfl)
  | ((with_reducible apply IxOk.lst); exact rfl)
  | ((with_reducible apply IxOk.own (k := 0)) <;> exact rfl)
  | with_reducible apply ed_tupA
  | with_reducible apply ed_lstA
  | with_reducible exact DatsOk.nil
  | with_reducible apply DatsOk.cons
  | with_reducible apply ed_callA
  | with_reducible apply ed_callS0
  | with_reducible apply ed_i2b
  | with_reducible apply ed_i2i
  | with_reducible apply ed_iC
  | with_reducible apply ed_eqD
  | with_reducible apply ed_neD
  | with_reducible apply et_test
  | with_reducible apply et_B
  | with_reducible apply et_not
  | with_reducible apply ed_lenA
  | with_reducible exact LenOk.tup
  | with_reducible exact LenOk.lst
  | with_reducible apply ed_sliceA
  | with_reducible exact eo_none
  | with_reducible apply eo_some
  | with_reducible exact SlOk.tup
  | with_reducible exact SlOk.lst
  | with_reducible apply ed_revLA
  | with_reducible exact SeqD.tup _
  | with_reducible exact SeqD.lst _
  | ((with_reducible show plain _ = true); exact rfl)
  | ((with_reducible show SeqAt.shaped _ = true); exact rfl)
  | ((with_reducible show _ ≤ sizeLine); exact of_decide_eq_true rfl))
local macro_rules | `(tactic| walk_at "ev") => `(tactic| try (walk_at "e" <;> walk_at "ev"))
local macro_rules | `(tactic| walk_at "pos") => `(tactic| first
  | assumption
  | ((with_reducible apply add_pos) <;> walk_at "pos")
  | ((with_reducible apply Rat.mul_pos) <;> walk_at "pos")
  | ((with_reducible apply div_pos) <;> walk_at "pos")
  | exact by decide)
local macro_rules | `(tactic| walk_at "szt") => `(tactic| first
  | assumption
  | ((with_reducible apply sz_add) <;> walk_at "szt")
  | ((with_reducible apply sz_mul) <;> walk_at "szt")
  | ((with_reducible apply sz_quo) <;> first | walk_at "pos" | walk_at "szt"))
local macro_rules | `(tactic| walk_at "e") => `(tactic| first
  | ((with_reducible show (0 : Rat) < _); walk_at "pos")
  | ((with_reducible show sz _ _); walk_at "szt")
  | ((with_reducible show _ ≤ 9000); exact of_decide_eq_true rfl))
section
variable {P : Program} {w : World} {K : PySem.W.Frag} {mg : Str → Option Value} {base : Heap}

/-- is_integer's answer -/
def isInt (v : PyData) (l : Int) (m : PyData) : Bool := match v with
  | .int i => decide (l ≤ i) && (match m with | .int u => decide (i ≤ u) | _ => true)
  | _ => false
inductive R_is_integer : List PyData → PyData → Prop
  | none {v : PyData} {l : Int} : R_is_integer [v, .int l, .none] (.bool (isInt v l .none))
  | some {v : PyData} {l u : Int} : R_is_integer [v, .int l, .int u] (.bool (isInt v l (.int u)))
theorem ok_is_integer (T : Top K mg) : ∀ f fd, FunS K "is_integer" s_is_integer [] [("least", .int 0), ("most", .non)] f fd → FnG P w K mg base CX0 1 f fd ["value", "least", "most"] (spR K (pure1 R_is_integer)) := fun f fd F => def_ok1 F sc_is_integer (fun ds d h => by cases h <;> rfl) fun X C => ⟨_, (pss_cons (ps_if (PW.pt (pw_or (pt_not (pt_val (q_isi C.toCtx T.b_isinstance (pa_cons (q_var C.toCtx 0) (pa_cons (q_ty C.toCtx (T := "int") T.b_int (by decide +kernel)) pa_nil))))) (pw_or1 (pt_val (q_isi C.toCtx T.b_isinstance (pa_cons (q_var C.toCtx 0) (pa_cons (q_ty C.toCtx (T := "bool") T.b_bool (by decide +kernel)) pa_nil))))))) (pss_one (ps_ret pe_bl)) pss_nil)
    (pss_one (ps_ret (pe_and (pe_cmpR op_le (q_var C.toCtx 1) (q_var C.toCtx 0) (nomark _)) (pe_one (pe_or (pe_cmpR op_isN (q_var C.toCtx 2) pe_non (nomark _)) (pe_one (pe_cmpR op_le (q_var C.toCtx 0) (q_var C.toCtx 2) (nomark _))))))))), fun ds d h => by
  obtain ⟨v, m, l, hm, e1, e2⟩ : ∃ v m l, (m = PyData.none ∨ ∃ u, m = .int u) ∧ ds = [v, .int l, m] ∧ d = .bool (isInt v l m) := by
    cases h with
    | @none v l => exact ⟨v, .none, l, Or.inl rfl, rfl, rfl⟩
    | @some v l u => exact ⟨v, .int u, l, Or.inr ⟨u, rfl⟩, rfl, rfl⟩
  subst e1 e2
  refine rn_seq (rn_if (et_orP (et_not (et_B (ed_isi (ed_var rfl) (kit_int v)))) (fun _ => et_B (ed_isi (ed_var rfl) (kit_bool v)))) (fun z => rn_ret ed_cbl ⟨?_, rfl⟩) (fun z => rn_next ?_))
  · cases v <;> first | rfl | cases z
  · cases v with
    | int i =>
      rcases hm with rfl | ⟨u, rfl⟩
      · exact rn_ret (ed_andP (by walk_at "ev") fun _ => ed_orP (b := true) (ed_isN (ed_var rfl) ed_cnon rfl) (fun z => by cases z)) ⟨rfl, rfl⟩
      · exact rn_ret (ed_andP (by walk_at "ev") fun _ => ed_orP (a := false) (b := decide (i ≤ u)) (ed_isN (ed_var rfl) ed_cnon rfl) (fun _ => by walk_at "ev")) ⟨rfl, rfl⟩
    | _ => cases z⟩
theorem d_is_integer (T : Top K mg) : Def P w K mg base 1 "is_integer" 1 [.int 0, .non] (spR K (pure1 R_is_integer)) := T.t_is_integer.useD (ok_is_integer T) (by simp) rfl (fun _ _ _ _ _ _ us ks h1 h2 => match us, ks, h1, h2 with | [_], [_, _], _, _ => ⟨_, _, _, _, _, _, rfl, rfl, ⟨_, _, _, _, _, _, rfl, rfl, rfl⟩⟩)
theorem e_is_integer {Γ : Gm} {O O1 : OH} {tr : TA} {ws : List W} {ds : List PyData} {d : PyData} {E : XK} (ha : Ea K Γ O tr ws O1) (hd : DatsOk ws ds) (hR : R_is_integer (ds ++ [.int 0, .none]) d) : Ed K Γ O (tCall (spR K (pure1 R_is_integer)) [.int 0, .non] E tr) (.dat d) O1 := ed_callDA ha hd (fun Z => (.cons (.int _) (.cons .non .nil))) hR
theorem d_is_integer_1_least (T : Top K mg) : DefN P w K mg base 1 "is_integer" 1 ["least"] (fun us ws => (fun (mv : List V) => (us.take 1) ++ ((ws.drop 0).take 1) ++ ((mv.drop 0).take 1)) [.non]) (spR K (pure1 R_is_integer)) := T.t_is_integer.useK (ok_is_integer T) ["least"] [("most", .non)] (fun us mv ws => (us.take 1) ++ ((ws.drop 0).take 1) ++ ((mv.drop 0).take 1)) (by simp) (by simp) (fun r1 r2 r3 => (((r1.take 1).append ((r3.drop 0).take 1)).append ((r2.drop 0).take 1))) (fun _ _ _ _ _ _ us mv ws h1 h2 h3 => match us, mv, ws, h1, h2, h3 with | [_], [_], [_], _, _, _ => ⟨_, _, _, _, _, _, rfl, rfl, rfl⟩)
theorem e_is_integer_1_least {Γ : Gm} {O O1 O2 : OH} {tr tk : TA} {a0 k0 d : PyData} {E : XK} (ha : Ea K Γ O tr [.dat a0] O1) (hk : Ea K Γ O1 tk [.dat k0] O2) (hR : R_is_integer [a0, k0, .none] d) : Ed K Γ O (tCallN 1 1 (spR K (pure1 R_is_integer)) (fun us ws => (fun (mv : List V) => (us.take 1) ++ ((ws.drop 0).take 1) ++ ((mv.drop 0).take 1)) [.non]) E tr tk) (.dat d) O2 := ed_callN (ds := [a0]) (es := [k0]) (fs := [a0, k0, .none]) ha hk rfl rfl (by
  intro Z vs zs r1 r2
  cases r1 with
  | cons ra0 r1 =>
    cases r1
    cases r2 with
    | cons rk0 r2 =>
      cases r2
      exact (.cons ra0 (.cons rk0 (.cons .non .nil)))
) hR
theorem d_is_integer_0_value_most_least (T : Top K mg) : DefN P w K mg base 1 "is_integer" 0 ["value", "most", "least"] (fun us ws => (fun (mv : List V) => ((ws.drop 0).take 1) ++ ((ws.drop 2).take 1) ++ ((ws.drop 1).take 1)) []) (spR K (pure1 R_is_integer)) := T.t_is_integer.useK (ok_is_integer T) ["value", "most", "least"] [] (fun us mv ws => ((ws.drop 0).take 1) ++ ((ws.drop 2).take 1) ++ ((ws.drop 1).take 1)) (by simp) (by simp) (fun r1 r2 r3 => ((((r3.drop 0).take 1).append ((r3.drop 2).take 1)).append ((r3.drop 1).take 1))) (fun _ _ _ _ _ _ us mv ws h1 h2 h3 => match us, mv, ws, h1, h2, h3 with | [], [], [_, _, _], _, _, _ => rfl)
theorem e_is_integer_0_value_most_least {Γ : Gm} {O O1 : OH} {tk : TA} {k0 k1 k2 d : PyData} {E : XK} (hk : Ea K Γ O tk [.dat k0, .dat k1, .dat k2] O1) (hR : R_is_integer [k0, k2, k1] d) : Ed K Γ O (tCallN0 3 (spR K (pure1 R_is_integer)) (fun us ws => (fun (mv : List V) => ((ws.drop 0).take 1) ++ ((ws.drop 2).take 1) ++ ((ws.drop 1).take 1)) []) E tk) (.dat d) O1 := ed_callN0 (es := [k0, k1, k2]) (fs := [k0, k2, k1]) hk rfl (by
  intro Z zs r2
  cases r2 with
  | cons rk0 r2 =>
    cases r2 with
    | cons rk1 r2 =>
      cases r2 with
      | cons rk2 r2 =>
        cases r2
        exact (.cons rk0 (.cons rk2 (.cons rk1 .nil)))
) hR
theorem d_is_integer_1_most (T : Top K mg) : DefN P w K mg base 1 "is_integer" 1 ["most"] (fun us ws => (fun (mv : List V) => (us.take 1) ++ ((mv.drop 0).take 1) ++ ((ws.drop 0).take 1)) [.int 0]) (spR K (pure1 R_is_integer)) := T.t_is_integer.useK (ok_is_integer T) ["most"] [("least", .int 0)] (fun us mv ws => (us.take 1) ++ ((mv.drop 0).take 1) ++ ((ws.drop 0).take 1)) (by simp) (by simp) (fun r1 r2 r3 => (((r1.take 1).append ((r2.drop 0).take 1)).append ((r3.drop 0).take 1))) (fun _ _ _ _ _ _ us mv ws h1 h2 h3 => match us, mv, ws, h1, h2, h3 with | [_], [_], [_], _, _, _ => ⟨_, _, _, _, _, _, rfl, rfl, rfl⟩)
theorem e_is_integer_1_most {Γ : Gm} {O O1 O2 : OH} {tr tk : TA} {a0 k0 d : PyData} {E : XK} (ha : Ea K Γ O tr [.dat a0] O1) (hk : Ea K Γ O1 tk [.dat k0] O2) (hR : R_is_integer [a0, .int 0, k0] d) : Ed K Γ O (tCallN 1 1 (spR K (pure1 R_is_integer)) (fun us ws => (fun (mv : List V) => (us.take 1) ++ ((mv.drop 0).take 1) ++ ((ws.drop 0).take 1)) [.int 0]) E tr tk) (.dat d) O2 := ed_callN (ds := [a0]) (es := [k0]) (fs := [a0, .int 0, k0]) ha hk rfl rfl (by
  intro Z vs zs r1 r2
  cases r1 with
  | cons ra0 r1 =>
    cases r1
    cases r2 with
    | cons rk0 r2 =>
      cases r2
      exact (.cons ra0 (.cons (.int _) (.cons rk0 .nil)))
) hR

inductive R_gcd : List PyData → PyData → Prop
  | mk {a b : Int} (ha : 0 ≤ a) (hb : 0 ≤ b) : R_gcd [.int a, .int b] (.int (Int.gcd a b : Nat))
theorem ok_greatest_common_divisor (T : Top K mg) : ∀ f fd, FunS K "greatest_common_divisor" s_greatest_common_divisor [] [] f fd → FnG P w K mg base CX0 1 f fd ["first", "second"] (spR K (pure1 R_gcd)) := fun f fd F => def_ok1 F sc_greatest_common_divisor (fun ds d h => by cases h <;> rfl) fun X C => ⟨_, (pss_cons (q_while C.toCtx (qt_ne C.toCtx (q_var C.toCtx 1) pe_int) (pss_one (q_par C.toCtx 0 1 (pa_cons (q_var C.toCtx 1) (pa_cons (pe_op op_mod (q_var C.toCtx 0) (q_var C.toCtx 1)) pa_nil)))))
    (pss_one (ps_ret (q_var C.toCtx 0)))), fun ds d h => by
  obtain @⟨a, b, ha, hb⟩ := h
  refine rn_seq (rn_while (fun m Γ O => O = [] ∧ ∃ x y : Int, Γ = [some (.dat (.int x)), some (.dat (.int y))] ∧ 0 ≤ x ∧ 0 ≤ y ∧ y.toNat = m ∧ Int.gcd x y = Int.gcd a b) b.toNat ⟨rfl, a, b, rfl, ha, hb, rfl, rfl⟩ ?_)
  rintro m Γ O ⟨rfl, x, y, rfl, hx, hy, hm, hg⟩
  apply wh
  · walk_at "ev"
  · intro hb
    rw [eqv_int] at hb
    have hy0 : y ≠ 0 := by simpa using hb
    refine rn_par (O1 := []) (x := .dat (.int y)) (y := .dat (.int (x % y))) ?_ ?_
    · walk_at "ev"
      show (0 : Int) < y
      omega
    · have h1 := Int.emod_lt_of_pos x (show (0 : Int) < y by omega)
      have h2 := Int.emod_nonneg x hy0
      exact ⟨_, by omega, rfl, y, x % y, rfl, hy, h2, rfl, by rw [gcd_turn hx hy]; exact hg⟩
  · intro hb
    rw [eqv_int] at hb
    have hy0 : y = 0 := by simpa using hb
    subst hy0
    refine rn_ret (w := .dat (.int x)) (O1 := []) (by walk_at "ev") ⟨?_, rfl⟩
    rw [← hg]
    simp
    omega⟩
theorem d_greatest_common_divisor (T : Top K mg) : Def P w K mg base 1 "greatest_common_divisor" 2 [] (spR K (pure1 R_gcd)) := T.t_greatest_common_divisor.use (ok_greatest_common_divisor T) (fun _ _ _ _ _ _ us hl => match us, hl with | [_, _], _ => rfl)

/-- is_fraction's answer -/
def isFrac : PyData → Bool
  | .tuple [.int a, .int b] => decide (1 ≤ a) && decide (1 ≤ b) && decide (Int.gcd a b = 1)
  | _ => false
theorem isFrac_fr {q : Rat} (h : 0 < q) : isFrac (fr q) = true := by
  have h1 := num_pos h
  have h2 := den_pos q
  show (decide (1 ≤ q.num) && decide (1 ≤ (q.den : Int)) && decide (Int.gcd q.num (q.den : Int) = 1)) = true
  rw [gcd_fr, decide_eq_true (show 1 ≤ q.num by omega), decide_eq_true (show 1 ≤ (q.den : Int) by omega)]
  rfl
inductive R_is_fraction : List PyData → PyData → Prop
  | mk {v : PyData} (hz : ∀ ds, v = .tuple ds → ds.length ≤ 1000) : R_is_fraction [v] (.bool (isFrac v))
theorem R_is_fraction.fr {q : Rat} (h : 0 < q) : R_is_fraction [fr q] (.bool true) := by
  have := R_is_fraction.mk (v := TB.fr q) (fun ds e => by injection e with e; subst e; exact of_decide_eq_true rfl)
  rwa [isFrac_fr h] at this
theorem ok_is_fraction (T : Top K mg) : ∀ f fd, FunS K "is_fraction" s_is_fraction [] [] f fd → FnG P w K mg base CX0 2 f fd ["value"] (spR K (pure1 R_is_fraction)) := fun f fd F => def_ok1 F sc_is_fraction (fun ds d h => by cases h <;> rfl) fun X C => ⟨_, (pss_cons (ps_if (PW.pt (pw_or (pt_not (pt_val (q_isi C.toCtx T.b_isinstance (pa_cons (q_var C.toCtx 0) (pa_cons (q_ty C.toCtx (T := "tuple") T.b_tuple (by decide +kernel)) pa_nil))))) (pw_or (qt_ne C.toCtx (q_len C.toCtx T.b_len (pa_cons (q_var C.toCtx 0) pa_nil)) pe_int) (pw_or1 (pt_not (pt_val (q_all C.toCtx T.b_all (pa_cons (q_lc C.toCtx [("part", 1)] (q_iSeq C.toCtx (q_var C.toCtx 0)) (fun X' C' => (q_nameC C' 1)) (fun X' C' => pts_nil) (fun X' C' => (q_callN C' (d_is_integer_1_least T) (pa_cons (q_var C' 1) pa_nil) (pk_cons pe_int pk_nil)))) pa_nil)))))))) (pss_one (ps_ret pe_bl)) pss_nil)
    (pss_one (ps_ret (q_eq C.toCtx (q_call C.toCtx (d_greatest_common_divisor T) (pa_cons (q_ix C.toCtx (q_var C.toCtx 0) pe_int) (pa_cons (q_ix C.toCtx (q_var C.toCtx 0) pe_int) pa_nil))) pe_int)))), fun ds d h => by
  obtain @⟨v, hz⟩ := h
  by_cases ht : isTupleD v = true
  · obtain ⟨ds, rfl⟩ : ∃ ds, v = .tuple ds := by cases v with | tuple ds => exact ⟨ds, rfl⟩ | _ => cases ht
    have hz := hz ds rfl
    by_cases hl : ds.length = 2
    · obtain ⟨a, b, rfl⟩ : ∃ a b, ds = [a, b] := by
        match ds, hl with
        | [a, b], _ => exact ⟨a, b, rfl⟩
      have hall : Ed K (startG ["value", "part"] (dats [.tuple [a, b]])) [] (tCB (rAll K) (tCons (tLc (iSeq K (tVar 0)) (gName 1) tYes (tCallN 1 1 (spR K (pure1 R_is_integer)) (fun us ws => (fun (mv : List V) => (us.take 1) ++ ((ws.drop 0).take 1) ++ ((mv.drop 0).take 1)) [.non]) E0 (tCons (tVar 1) tNil) (tCons (tC (V.int 1)) tNil)) [1]) tNil)) (.dat (.bool ([isInt a 1 .none, isInt b 1 .none].all id))) [] := by
        refine ed_allA (ea_cons (ed_map (f := fun d => .bool (isInt d 1 .none)) (ei_seq (ed_var rfl) (.tup _)) (of_decide_eq_true rfl) (fun n d _ => ⟨_, tgc_name (by simp), ?_⟩)) ea_nil) rfl
        exact e_is_integer_1_least (by walk_at "ev") (by walk_at "ev") .none
      refine rn_seq (rn_if (et_orP (et_not (et_B (ed_isi (ed_var rfl) (kit_tuple _)))) (fun _ => et_orP (b := !([isInt a 1 .none, isInt b 1 .none].all id)) (by walk_at "ev") (fun _ => et_not (et_B hall)))) (fun z => rn_ret ed_cbl ⟨?_, rfl⟩) (fun z => rn_next ?_))
      · have z1 : (!(isInt a 1 .none && (isInt b 1 .none && true))) = true := z
        congr 2
        unfold isFrac
        split
        · rename_i a b e
          injection e with e
          injection e with e1 e2
          injection e2 with e2 _
          subst e1 e2
          rw [Bool.and_true, Bool.not_eq_true'] at z1
          have z2 : (decide (1 ≤ a) && true && (decide (1 ≤ b) && true)) = false := z1
          rw [Bool.and_true, Bool.and_true] at z2
          rw [z2]; rfl
        · rfl
      · have z1 : (!(isInt a 1 .none && (isInt b 1 .none && true))) = false := z
        rw [Bool.and_true, Bool.not_eq_false', Bool.and_eq_true] at z1
        obtain ⟨z1, z2⟩ := z1
        cases a with
        | int a =>
          cases b with
          | int b =>
            have h1 : 1 ≤ a := by
              have : (decide (1 ≤ a) && true) = true := z1
              simpa using this
            have h2 : 1 ≤ b := by
              have : (decide (1 ≤ b) && true) = true := z2
              simpa using this
            refine rn_ret (w := .dat (.bool (decide (((Int.gcd a b : Nat) : Int) = 1)))) (O1 := []) (Ed.is (w := .dat (.bool (PyData.eqv (.int (Int.gcd a b : Nat)) (.int 1)))) ?_ (by rw [eqv_int])) ⟨?_, rfl⟩
            · walk_at "ev"
              exact .mk (by omega) (by omega)
            · show W.dat (.bool _) = W.dat (.bool (decide (1 ≤ a) && decide (1 ≤ b) && decide (Int.gcd a b = 1)))
              rw [decide_eq_true h1, decide_eq_true h2]
              congr 2
              simp
              omega
          | _ => cases z2
        | _ => cases z1
    · refine rn_seq (rn_if (b := true) (et_orP (a := !isTupleD (.tuple ds)) (et_not (et_B (ed_isi (ed_var rfl) (kit_tuple (.tuple ds))))) (fun _ => et_or (a := true) (O1 := []) ?_ (fun z => by cases z) (fun _ => ⟨rfl, rfl⟩))) (fun z => rn_ret ed_cbl ⟨?_, rfl⟩) (fun z => by cases z))
      · refine Et.is (b := !PyData.eqv (.int ds.length) (.int 2)) (by walk_at "ev") ?_
        rw [eqv_int]
        simp
        omega
      · congr 2
        unfold isFrac
        split
        · rename_i e
          injection e with e
          subst e
          exact absurd rfl hl
        · rfl
  · refine rn_seq (rn_if (b := true) (et_or (a := true) (O1 := []) (Et.is (et_not (et_B (ed_isi (ed_var rfl) (kit_tuple v)))) (by simpa using ht)) (fun z => by cases z) (fun _ => ⟨rfl, rfl⟩)) (fun z => rn_ret ed_cbl ⟨?_, rfl⟩) (fun z => by cases z))
    congr 2
    unfold isFrac
    split
    · exact absurd rfl ht
    · rfl⟩
theorem d_is_fraction (T : Top K mg) : Def P w K mg base 2 "is_fraction" 1 [] (spR K (pure1 R_is_fraction)) := T.t_is_fraction.use (ok_is_fraction T) (fun _ _ _ _ _ _ us hl => match us, hl with | [_], _ => rfl)
theorem d_is_fraction_0_value (T : Top K mg) : DefN P w K mg base 2 "is_fraction" 0 ["value"] (fun us ws => ((ws.drop 0).take 1)) (spR K (pure1 R_is_fraction)) := T.t_is_fraction.useN (ok_is_fraction T) ["value"] (fun us ws => ((ws.drop 0).take 1)) (fun r1 r3 => ((r3.drop 0).take 1)) (fun _ _ _ _ _ _ us ws h1 h2 => match us, ws, h1, h2 with | [], [_], _, _ => rfl)
theorem e_is_fraction_0_value {Γ : Gm} {O O1 : OH} {tk : TA} {k0 d : PyData} {E : XK} (hk : Ea K Γ O tk [.dat k0] O1) (hR : R_is_fraction [k0] d) : Ed K Γ O (tCallN0 1 (spR K (pure1 R_is_fraction)) (fun us ws => ((ws.drop 0).take 1)) E tk) (.dat d) O1 := ed_callN0 (es := [k0]) (fs := [k0]) hk rfl (by
  intro Z zs r2
  cases r2 with
  | cons rk0 r2 =>
    cases r2
    exact (.cons rk0 .nil)
) hR

inductive R_reduced : List PyData → PyData → Prop
  | mk {n m : Int} (hn : 0 < n) (hm : 0 < m) (hz : n.natAbs < 2 ^ lim) : R_reduced [.int n, .int m] (fr ((n : Rat) / (m : Rat)))
theorem ok_reduced (T : Top K mg) : ∀ f fd, FunS K "reduced" s_reduced [] [] f fd → FnG P w K mg base CX0 2 f fd ["numerator", "denominator"] (spR K (pure1 R_reduced)) := fun f fd F => def_ok1 F sc_reduced (fun ds d h => by cases h <;> rfl) fun X C => ⟨_, (pss_cons (q_set C 2 (q_call C.toCtx (d_greatest_common_divisor T) (pa_cons (q_var C.toCtx 0) (pa_cons (q_var C.toCtx 1) pa_nil))))
    (pss_one (ps_ret (pe_tup (pa_cons (pe_op op_fdivW (q_var C.toCtx 0) (q_var C.toCtx 2)) (pa_cons (pe_op op_fdivW (q_var C.toCtx 1) (q_var C.toCtx 2)) pa_nil)))))), fun ds d h => by
  obtain @⟨n, m, hn, hm, hz⟩ := h
  refine rn_seq (rn_asg (w := .dat (.int (Int.gcd n m : Nat))) (O1 := []) ?_ ?_)
  · walk_at "ev"
    exact .mk (by omega) (by omega)
  · refine rn_ret (w := .dat (.tuple [.int (n / (Int.gcd n m : Nat)), .int (m / (Int.gcd n m : Nat))])) (O1 := []) ?_ ⟨?_, rfl⟩
    · walk_at "ev"
      · exact wide_div (gcd_pos hn) (gcd_lt hn hz) (by decide) (Nat.le_refl _)
      · exact wide_div (gcd_pos hn) (gcd_lt hn hz) (by decide) (Nat.le_refl _)
    · rw [fr_red hm]⟩
theorem d_reduced (T : Top K mg) : Def P w K mg base 2 "reduced" 2 [] (spR K (pure1 R_reduced)) := T.t_reduced.use (ok_reduced T) (fun _ _ _ _ _ _ us hl => match us, hl with | [_, _], _ => rfl)

inductive R_reciprocal : List PyData → PyData → Prop
  | mk {q : Rat} (h : 0 < q) : R_reciprocal [fr q] (fr q⁻¹)
theorem ok_reciprocal (T : Top K mg) : ∀ f fd, FunS K "reciprocal" s_reciprocal [] [] f fd → FnG P w K mg base CX0 1 f fd ["value"] (spR K (pure1 R_reciprocal)) := fun f fd F => def_ok1 F sc_reciprocal (fun ds d h => by cases h <;> rfl) fun X C => ⟨_, (pss_one (ps_ret (pe_tup (pa_cons (q_ix C.toCtx (q_var C.toCtx 0) pe_int) (pa_cons (q_ix C.toCtx (q_var C.toCtx 0) pe_int) pa_nil))))), fun ds d h => by
  obtain @⟨q, h⟩ := h
  exact rn_ret (w := .dat (.tuple [.int (q.den : Int), .int q.num])) (O1 := []) (by walk_at "ev") ⟨by rw [fr_inv h], rfl⟩⟩
theorem d_reciprocal (T : Top K mg) : Def P w K mg base 1 "reciprocal" 1 [] (spR K (pure1 R_reciprocal)) := T.t_reciprocal.use (ok_reciprocal T) (fun _ _ _ _ _ _ us hl => match us, hl with | [_], _ => rfl)

inductive R_sum_of_two : List PyData → PyData → Prop
  | mk {p q : Rat} {a b : Nat} (hp : 0 < p) (hq : 0 < q) (sp : sz a p) (sq : sz b q) (h : a + b + 1 ≤ 9000) : R_sum_of_two [fr p, fr q] (fr (p + q))
theorem ok_sum_of_two (T : Top K mg) : ∀ f fd, FunS K "sum_of_two" s_sum_of_two [] [] f fd → FnG P w K mg base CX0 3 f fd ["first", "second"] (spR K (pure1 R_sum_of_two)) := fun f fd F => def_ok1 F sc_sum_of_two (fun ds d h => by cases h <;> rfl) fun X C => ⟨_, (pss_one (ps_ret (q_call C.toCtx (d_reduced T) (pa_cons (q_add C.toCtx (q_mul C.toCtx (q_ix C.toCtx (q_var C.toCtx 0) pe_int) (q_ix C.toCtx (q_var C.toCtx 1) pe_int)) (q_mul C.toCtx (q_ix C.toCtx (q_var C.toCtx 1) pe_int) (q_ix C.toCtx (q_var C.toCtx 0) pe_int))) (pa_cons (q_mul C.toCtx (q_ix C.toCtx (q_var C.toCtx 0) pe_int) (q_ix C.toCtx (q_var C.toCtx 1) pe_int)) pa_nil))))), fun ds d h => by
  obtain @⟨p, q, a, b, hp, hq, sp, sq, h⟩ := h
  have a0 := sz_pos sp
  have b0 := sz_pos sq
  refine rn_ret (w := .dat (fr (((p.num * (q.den : Int) + q.num * (p.den : Int) : Int) : Rat) / (((p.den : Int) * (q.den : Int) : Int) : Rat)))) (O1 := []) ?_ ⟨by rw [add_frac], rfl⟩
  walk_at "ev"
  · exact wide_mul sp.1 sq.den a0 b0 (by omega)
  · exact wide_mul sq.1 sp.den b0 a0 (by omega)
  · exact wide_mul sp.den sq.den a0 b0 (by omega)
  · have h1 := Int.mul_pos (num_pos hp) (den_pos q)
    have h2 := Int.mul_pos (num_pos hq) (den_pos p)
    refine .mk (by omega) (Int.mul_pos (den_pos p) (den_pos q)) ?_
    have h3 := wide_add (wide_lt sp.1 sq.den) (Nat.add_comm b a ▸ wide_lt sq.1 sp.den)
    exact Nat.lt_of_lt_of_le h3 (Nat.pow_le_pow_right (by omega) (show _ ≤ lim from h))⟩
theorem d_sum_of_two (T : Top K mg) : Def P w K mg base 3 "sum_of_two" 2 [] (spR K (pure1 R_sum_of_two)) := T.t_sum_of_two.use (ok_sum_of_two T) (fun _ _ _ _ _ _ us hl => match us, hl with | [_, _], _ => rfl)

inductive R_product_of_two : List PyData → PyData → Prop
  | mk {p q : Rat} {a b : Nat} (hp : 0 < p) (hq : 0 < q) (sp : sz a p) (sq : sz b q) (h : a + b ≤ 9000) : R_product_of_two [fr p, fr q] (fr (p * q))
theorem ok_product_of_two (T : Top K mg) : ∀ f fd, FunS K "product_of_two" s_product_of_two [] [] f fd → FnG P w K mg base CX0 3 f fd ["first", "second"] (spR K (pure1 R_product_of_two)) := fun f fd F => def_ok1 F sc_product_of_two (fun ds d h => by cases h <;> rfl) fun X C => ⟨_, (pss_one (ps_ret (q_call C.toCtx (d_reduced T) (pa_cons (q_mul C.toCtx (q_ix C.toCtx (q_var C.toCtx 0) pe_int) (q_ix C.toCtx (q_var C.toCtx 1) pe_int)) (pa_cons (q_mul C.toCtx (q_ix C.toCtx (q_var C.toCtx 0) pe_int) (q_ix C.toCtx (q_var C.toCtx 1) pe_int)) pa_nil))))), fun ds d h => by
  obtain @⟨p, q, a, b, hp, hq, sp, sq, h⟩ := h
  have a0 := sz_pos sp
  have b0 := sz_pos sq
  refine rn_ret (w := .dat (fr (((p.num * q.num : Int) : Rat) / (((p.den : Int) * (q.den : Int) : Int) : Rat)))) (O1 := []) ?_ ⟨by rw [mul_frac], rfl⟩
  walk_at "ev"
  · exact wide_mul sp.1 sq.1 a0 b0 (by omega)
  · exact wide_mul sp.den sq.den a0 b0 (by omega)
  · refine .mk (Int.mul_pos (num_pos hp) (num_pos hq)) (Int.mul_pos (den_pos p) (den_pos q)) ?_
    exact Nat.lt_of_lt_of_le (wide_lt sp.1 sq.1) (Nat.pow_le_pow_right (by omega) (show _ ≤ lim from h))⟩
theorem d_product_of_two (T : Top K mg) : Def P w K mg base 3 "product_of_two" 2 [] (spR K (pure1 R_product_of_two)) := T.t_product_of_two.use (ok_product_of_two T) (fun _ _ _ _ _ _ us hl => match us, hl with | [_, _], _ => rfl)

inductive R_check_two : List PyData → PyData → Prop
  | mk {p q : Rat} (hp : 0 < p) (hq : 0 < q) : R_check_two [fr p, fr q] .none
theorem ok_check_two (T : Top K mg) : ∀ f fd, FunS K "check_two" s_check_two [] [] f fd → FnG P w K mg base CX0 3 f fd ["first", "second"] (spR K (pure1 R_check_two)) := fun f fd F => def_ok1 F sc_check_two (fun ds d h => by cases h <;> rfl) fun X C => ⟨_, (pss_one (q_for C.toCtx (q_enum C.toCtx T.b_enumerate (pa_cons (pe_tup (pa_cons (q_var C.toCtx 0) (pa_cons (q_var C.toCtx 1) pa_nil))) pa_nil)) (q_seq C.toCtx (pgs_cons (q_name C 2) (pgs_cons (q_name C 3) pgs_nil))) (pss_one (ps_if (pt_not (pt_val (q_call C.toCtx (d_is_fraction T) (pa_cons (q_var C.toCtx 3) pa_nil)))) (pss_one ps_never) pss_nil)))), fun ds d h => by
  obtain @⟨p, q, hp, hq⟩ := h
  refine rn_for (ws := dats (enumD [fr p, fr q])) (C := anyO) (O1 := []) (ei_enum (by walk_at "ev") (.tup _)) (fun n Γ O => O = [] ∧ ∃ a b, Γ = [some (.dat (fr p)), some (.dat (fr q)), a, b]) ⟨rfl, none, none, rfl⟩ (fun _ _ _ _ _ => trivial) ?_ (fun Γ O h => ⟨rfl, h.1⟩)
  rintro n w Γ O hw ⟨rfl, a, b, rfl⟩
  obtain ⟨i, r, hr, rfl⟩ : ∃ (i : Int) (r : Rat), 0 < r ∧ w = .dat (.tuple [.int i, fr r]) := by
    match n, hw with
    | 0, hw => exact ⟨0, p, hp, by cases hw; rfl⟩
    | 1, hw => exact ⟨1, q, hq, by cases hw; rfl⟩
  refine ⟨_, tg_seqT (tgs_cons tg_name (tgs_cons tg_name tgs_nil)) rfl, rn_if (b := false) (et_not (b := true) (et_B ?_)) (fun z => by cases z) (fun _ => rn_next ⟨rfl, _, _, rfl⟩)⟩
  walk_at "ev"
  exact .fr hr⟩
theorem d_check_two (T : Top K mg) : Def P w K mg base 3 "check_two" 2 [] (spR K (pure1 R_check_two)) := T.t_check_two.use (ok_check_two T) (fun _ _ _ _ _ _ us hl => match us, hl with | [_, _], _ => rfl)

inductive R_add : List PyData → PyData → Prop
  | mk {p q : Rat} {a b : Nat} (hp : 0 < p) (hq : 0 < q) (sp : sz a p) (sq : sz b q) (h : a + b + 1 ≤ 9000) : R_add [fr p, fr q] (fr (p + q))
theorem ok_add (T : Top K mg) : ∀ f fd, FunS K "add" s_add [] [] f fd → FnG P w K mg base CX0 4 f fd ["first", "second"] (spR K (pure1 R_add)) := fun f fd F => def_ok1 F sc_add (fun ds d h => by cases h <;> rfl) fun X C => ⟨_, (pss_cons (ps_expr (q_call C.toCtx (d_check_two T) (pa_cons (q_var C.toCtx 0) (pa_cons (q_var C.toCtx 1) pa_nil))))
    (pss_one (ps_ret (q_call C.toCtx (d_sum_of_two T) (pa_cons (q_var C.toCtx 0) (pa_cons (q_var C.toCtx 1) pa_nil)))))), fun ds d h => by
  obtain @⟨p, q, a, b, hp, hq, sp, sq, h⟩ := h
  refine rn_seq (rn_drop (w := .dat .none) (O1 := []) ?_ (rn_ret ?_ ⟨rfl, rfl⟩))
  · walk_at "ev"
    exact .mk hp hq
  · walk_at "ev"
    exact .mk hp hq sp sq h⟩
theorem d_add (T : Top K mg) : Def P w K mg base 4 "add" 2 [] (spR K (pure1 R_add)) := T.t_add.use (ok_add T) (fun _ _ _ _ _ _ us hl => match us, hl with | [_, _], _ => rfl)
theorem d_add_0_second_first (T : Top K mg) : DefN P w K mg base 4 "add" 0 ["second", "first"] (fun us ws => ((ws.drop 1).take 1) ++ ((ws.drop 0).take 1)) (spR K (pure1 R_add)) := T.t_add.useN (ok_add T) ["second", "first"] (fun us ws => ((ws.drop 1).take 1) ++ ((ws.drop 0).take 1)) (fun r1 r3 => (((r3.drop 1).take 1).append ((r3.drop 0).take 1))) (fun _ _ _ _ _ _ us ws h1 h2 => match us, ws, h1, h2 with | [], [_, _], _, _ => rfl)
theorem e_add_0_second_first {Γ : Gm} {O O1 : OH} {tk : TA} {k0 k1 d : PyData} {E : XK} (hk : Ea K Γ O tk [.dat k0, .dat k1] O1) (hR : R_add [k1, k0] d) : Ed K Γ O (tCallN0 2 (spR K (pure1 R_add)) (fun us ws => ((ws.drop 1).take 1) ++ ((ws.drop 0).take 1)) E tk) (.dat d) O1 := ed_callN0 (es := [k0, k1]) (fs := [k1, k0]) hk rfl (by
  intro Z zs r2
  cases r2 with
  | cons rk0 r2 =>
    cases r2 with
    | cons rk1 r2 =>
      cases r2
      exact (.cons rk1 (.cons rk0 .nil))
) hR

inductive R_multiply : List PyData → PyData → Prop
  | mk {p q : Rat} {a b : Nat} (hp : 0 < p) (hq : 0 < q) (sp : sz a p) (sq : sz b q) (h : a + b ≤ 9000) : R_multiply [fr p, fr q] (fr (p * q))
theorem ok_multiply (T : Top K mg) : ∀ f fd, FunS K "multiply" s_multiply [] [] f fd → FnG P w K mg base CX0 4 f fd ["first", "second"] (spR K (pure1 R_multiply)) := fun f fd F => def_ok1 F sc_multiply (fun ds d h => by cases h <;> rfl) fun X C => ⟨_, (pss_cons (ps_expr (q_call C.toCtx (d_check_two T) (pa_cons (q_var C.toCtx 0) (pa_cons (q_var C.toCtx 1) pa_nil))))
    (pss_one (ps_ret (q_call C.toCtx (d_product_of_two T) (pa_cons (q_var C.toCtx 0) (pa_cons (q_var C.toCtx 1) pa_nil)))))), fun ds d h => by
  obtain @⟨p, q, a, b, hp, hq, sp, sq, h⟩ := h
  refine rn_seq (rn_drop (w := .dat .none) (O1 := []) ?_ (rn_ret ?_ ⟨rfl, rfl⟩))
  · walk_at "ev"
    exact .mk hp hq
  · walk_at "ev"
    exact .mk hp hq sp sq h⟩
theorem d_multiply (T : Top K mg) : Def P w K mg base 4 "multiply" 2 [] (spR K (pure1 R_multiply)) := T.t_multiply.use (ok_multiply T) (fun _ _ _ _ _ _ us hl => match us, hl with | [_, _], _ => rfl)
theorem d_multiply_0_second_first (T : Top K mg) : DefN P w K mg base 4 "multiply" 0 ["second", "first"] (fun us ws => ((ws.drop 1).take 1) ++ ((ws.drop 0).take 1)) (spR K (pure1 R_multiply)) := T.t_multiply.useN (ok_multiply T) ["second", "first"] (fun us ws => ((ws.drop 1).take 1) ++ ((ws.drop 0).take 1)) (fun r1 r3 => (((r3.drop 1).take 1).append ((r3.drop 0).take 1))) (fun _ _ _ _ _ _ us ws h1 h2 => match us, ws, h1, h2 with | [], [_, _], _, _ => rfl)
theorem e_multiply_0_second_first {Γ : Gm} {O O1 : OH} {tk : TA} {k0 k1 d : PyData} {E : XK} (hk : Ea K Γ O tk [.dat k0, .dat k1] O1) (hR : R_multiply [k1, k0] d) : Ed K Γ O (tCallN0 2 (spR K (pure1 R_multiply)) (fun us ws => ((ws.drop 1).take 1) ++ ((ws.drop 0).take 1)) E tk) (.dat d) O1 := ed_callN0 (es := [k0, k1]) (fs := [k1, k0]) hk rfl (by
  intro Z zs r2
  cases r2 with
  | cons rk0 r2 =>
    cases r2 with
    | cons rk1 r2 =>
      cases r2
      exact (.cons rk1 (.cons rk0 .nil))
) hR

inductive R_divide : List PyData → PyData → Prop
  | mk {p q : Rat} {a b : Nat} (hp : 0 < p) (hq : 0 < q) (sp : sz a p) (sq : sz b q) (h : a + b ≤ 9000) : R_divide [fr p, fr q] (fr (p / q))
theorem ok_divide (T : Top K mg) : ∀ f fd, FunS K "divide" s_divide [] [] f fd → FnG P w K mg base CX0 4 f fd ["first", "second"] (spR K (pure1 R_divide)) := fun f fd F => def_ok1 F sc_divide (fun ds d h => by cases h <;> rfl) fun X C => ⟨_, (pss_cons (ps_expr (q_call C.toCtx (d_check_two T) (pa_cons (q_var C.toCtx 0) (pa_cons (q_var C.toCtx 1) pa_nil))))
    (pss_one (ps_ret (q_call C.toCtx (d_product_of_two T) (pa_cons (q_var C.toCtx 0) (pa_cons (q_call C.toCtx (d_reciprocal T) (pa_cons (q_var C.toCtx 1) pa_nil)) pa_nil)))))), fun ds d h => by
  obtain @⟨p, q, a, b, hp, hq, sp, sq, h⟩ := h
  refine rn_seq (rn_drop (w := .dat .none) (O1 := []) ?_ (rn_ret (w := .dat (fr (p * q⁻¹))) ?_ ⟨by rw [Rat.div_def], rfl⟩))
  · walk_at "ev"
    exact .mk hp hq
  · walk_at "ev"
    · exact .mk hq
    · exact .mk hp (Rat.inv_pos.mpr hq) sp (sz_inv hq sq) h⟩
theorem d_divide (T : Top K mg) : Def P w K mg base 4 "divide" 2 [] (spR K (pure1 R_divide)) := T.t_divide.use (ok_divide T) (fun _ _ _ _ _ _ us hl => match us, hl with | [_, _], _ => rfl)
theorem d_divide_0_second_first (T : Top K mg) : DefN P w K mg base 4 "divide" 0 ["second", "first"] (fun us ws => ((ws.drop 1).take 1) ++ ((ws.drop 0).take 1)) (spR K (pure1 R_divide)) := T.t_divide.useN (ok_divide T) ["second", "first"] (fun us ws => ((ws.drop 1).take 1) ++ ((ws.drop 0).take 1)) (fun r1 r3 => (((r3.drop 1).take 1).append ((r3.drop 0).take 1))) (fun _ _ _ _ _ _ us ws h1 h2 => match us, ws, h1, h2 with | [], [_, _], _, _ => rfl)
theorem e_divide_0_second_first {Γ : Gm} {O O1 : OH} {tk : TA} {k0 k1 d : PyData} {E : XK} (hk : Ea K Γ O tk [.dat k0, .dat k1] O1) (hR : R_divide [k1, k0] d) : Ed K Γ O (tCallN0 2 (spR K (pure1 R_divide)) (fun us ws => ((ws.drop 1).take 1) ++ ((ws.drop 0).take 1)) E tk) (.dat d) O1 := ed_callN0 (es := [k0, k1]) (fs := [k1, k0]) hk rfl (by
  intro Z zs r2
  cases r2 with
  | cons rk0 r2 =>
    cases r2 with
    | cons rk1 r2 =>
      cases r2
      exact (.cons rk1 (.cons rk0 .nil))
) hR

inductive R_parallel_sum : List PyData → PyData → Prop
  | mk {d : PyData} {qs : List Rat} {n : Nat} (hd : SeqD d (qs.map fr)) (hn : qs ≠ []) (hp : ∀ q ∈ qs, 0 < q) (hs : ∀ q ∈ qs, sz n q) (h : (n + 1) * qs.length + n + 1 ≤ 9000) (hl : qs.length ≤ 1000) : R_parallel_sum [d] (fr (psum qs))
theorem ok_parallel_sum (T : Top K mg) : ∀ f fd, FunS K "parallel_sum" s_parallel_sum [] [] f fd → FnG P w K mg base CX0 4 f fd ["values"] (spR K (pure1 R_parallel_sum)) := fun f fd F => def_ok1 F sc_parallel_sum (fun ds d h => by cases h <;> rfl) fun X C => ⟨_, (pss_cons (ps_if (PW.pt (pw_or (pt_not (pt_val (q_isi C.toCtx T.b_isinstance (pa_cons (q_var C.toCtx 0) (pa_cons (pe_tup (pa_cons (q_ty C.toCtx (T := "list") T.b_list (by decide +kernel)) (pa_cons (q_ty C.toCtx (T := "tuple") T.b_tuple (by decide +kernel)) pa_nil))) pa_nil))))) (pw_or1 (qt_eq C.toCtx (q_len C.toCtx T.b_len (pa_cons (q_var C.toCtx 0) pa_nil)) pe_int)))) (pss_one ps_never) pss_nil)
    (pss_cons (q_for C.toCtx (q_enum C.toCtx T.b_enumerate (pa_cons (q_var C.toCtx 0) pa_nil)) (q_seq C.toCtx (pgs_cons (q_name C 3) (pgs_cons (q_name C 2) pgs_nil))) (pss_one (ps_if (pt_not (pt_val (q_call C.toCtx (d_is_fraction T) (pa_cons (q_var C.toCtx 2) pa_nil)))) (pss_one ps_never) pss_nil)))
    (pss_cons (q_set C 1 (q_call C.toCtx (d_reciprocal T) (pa_cons (q_ix C.toCtx (q_var C.toCtx 0) pe_int) pa_nil)))
    (pss_cons (q_for C.toCtx (q_iSeq C.toCtx (q_slice C.toCtx (q_var C.toCtx 0) (po_some pe_int) po_none)) (q_name C 2) (pss_one (q_set C 1 (q_call C.toCtx (d_sum_of_two T) (pa_cons (q_var C.toCtx 1) (pa_cons (q_call C.toCtx (d_reciprocal T) (pa_cons (q_var C.toCtx 2) pa_nil)) pa_nil))))))
    (pss_one (ps_ret (q_call C.toCtx (d_reciprocal T) (pa_cons (q_var C.toCtx 1) pa_nil)))))))), fun ds d h => by
  obtain @⟨d, qs, n, hd, hn, hp, hs, h, hl⟩ := h
  have hlen : (qs.map fr).length = qs.length := List.length_map ..
  have hq0 : qs.length ≠ 0 := fun e => hn (List.length_eq_zero_iff.mp e)
  have h0 : (!(isListD d || isTupleD d) || PyData.eqv (.int ((qs.map fr).length : Int)) (.int 0)) = false := by
    have h1 : PyData.eqv (.int ((qs.map fr).length : Int)) (.int 0) = false := by
      rw [eqv_int, hlen]
      simp
      omega
    cases hd with
    | tup => rw [h1]; rfl
    | lst => rw [h1]; rfl
  refine rn_seq (rn_if (Et.is (et_orP (et_not (et_B (ed_isi2 (ed_var rfl) (kit_list d) (kit_tuple d)))) (fun _ => et_test (ed_eqD (ed_lenA (ea_cons (ed_var rfl) ea_nil) (.seq hd)) ed_cint rfl rfl rfl rfl))) h0) (fun z => by cases z) (fun _ => rn_next ?_))
  refine rn_seq (rn_for (ws := dats (enumD (qs.map fr))) (C := anyO) (O1 := []) (ei_enum (by walk_at "ev") hd) (fun n Γ O => O = [] ∧ ∃ a b, Γ = [some (.dat d), none, a, b]) ⟨rfl, none, none, rfl⟩ (fun _ _ _ _ _ => trivial) ?_ ?_)
  · rintro k w Γ O hw ⟨rfl, a, b, rfl⟩
    rw [dats_get, enumD_get, List.getElem?_map] at hw
    cases e : qs[k]? with
    | none => rw [e] at hw; cases hw
    | some q =>
      rw [e] at hw
      cases hw
      have hq := hp q (List.mem_of_getElem? e)
      refine ⟨_, tg_seqT (tgs_cons tg_name (tgs_cons tg_name tgs_nil)) rfl, rn_if (b := false) (et_not (b := true) (et_B ?_)) (fun z => by cases z) (fun _ => rn_next ⟨rfl, _, _, rfl⟩)⟩
      walk_at "ev"
      exact .fr hq
  · rintro Γ O ⟨rfl, a, b, rfl⟩
    obtain ⟨q0, qt, rfl⟩ : ∃ q0 qt, qs = q0 :: qt := by
      cases qs with
      | nil => exact absurd rfl hn
      | cons q0 qt => exact ⟨q0, qt, rfl⟩
    have hq0 := hp q0 List.mem_cons_self
    refine rn_seq (rn_asg (w := .dat (fr q0⁻¹)) (O1 := []) (ed_callA (ea_cons (ed_ixA (ed_var rfl) ed_cint (.seq hd (at_nat (k := 0) rfl))) ea_nil) (.cons .nil) (R_reciprocal.mk hq0)) ?_)
    obtain ⟨e, he, hde⟩ := SlOk.seq (lo := some 1) (hi := none) hd
    rw [show cutD ((q0 :: qt).map fr) (some 1) none = qt.map fr from cut_from _ 1] at hde
    refine rn_seq (rn_for (ws := dats (qt.map fr)) (C := anyO) (O1 := []) (ei_seq (ed_sliceA (ed_var rfl) (eo_some ed_cint) eo_none he) hde) (fun k Γ O => O = [] ∧ ∃ a b, Γ = [some (.dat d), some (.dat (fr (isum (q0 :: qt.take k)))), a, b]) ⟨rfl, a, b, by rw [List.take_zero, isum_cons, isum_nil, Rat.add_zero]; rfl⟩ (fun _ _ _ _ _ => trivial) ?_ ?_)
    · rintro k w Γ O hw ⟨rfl, a, b, rfl⟩
      rw [dats_get, List.getElem?_map] at hw
      cases e : qt[k]? with
      | none => rw [e] at hw; cases hw
      | some q =>
        rw [e] at hw
        cases hw
        have hm := List.mem_of_getElem? e
        have hq := hp q (List.mem_cons_of_mem _ hm)
        have hkl : k < qt.length := (List.getElem?_eq_some_iff.mp e).1
        have hp' : ∀ x ∈ q0 :: qt.take k, 0 < x := fun x hx => hp x (by
          rcases List.mem_cons.mp hx with e | e
          · rw [e]; exact List.mem_cons_self
          · exact List.mem_cons_of_mem _ (List.mem_of_mem_take e))
        have hs' : ∀ x ∈ q0 :: qt.take k, sz n x := fun x hx => hs x (by
          rcases List.mem_cons.mp hx with e | e
          · rw [e]; exact List.mem_cons_self
          · exact List.mem_cons_of_mem _ (List.mem_of_mem_take e))
        have hle : (n + 1) * (q0 :: qt.take k).length + n + 1 ≤ 9000 := by
          refine Nat.le_trans ?_ h
          have : (q0 :: qt.take k).length ≤ (q0 :: qt).length := by simp; omega
          have := Nat.mul_le_mul_left (n + 1) this
          omega
        refine ⟨_, tg_name, rn_asg (w := .dat (fr (isum (q0 :: qt.take k) + q⁻¹))) (O1 := []) ?_ ⟨rfl, some (.dat (fr q)), b, ?_⟩⟩
        · walk_at "ev"
          · exact .mk hq
          · exact .mk (isum_pos hp' (by simp)) (Rat.inv_pos.mpr hq) (isum_sz hp' hs' (by simp)) (sz_inv hq (hs q (List.mem_cons_of_mem _ hm))) (by omega)
        · rw [List.take_add_one, e]
          show _ = [_, some (W.dat (fr (isum (q0 :: (qt.take k ++ [q]))))), _, _]
          rw [← List.cons_append, isum_append (q0 :: qt.take k), isum_cons q, isum_nil, Rat.add_zero]
          rfl
    · rintro Γ O ⟨rfl, a, b, rfl⟩
      rw [dats_length, List.length_map, List.take_length]
      refine rn_ret ?_ ⟨rfl, rfl⟩
      walk_at "ev"
      exact .mk (isum_pos hp (by simp))⟩
theorem d_parallel_sum (T : Top K mg) : Def P w K mg base 4 "parallel_sum" 1 [] (spR K (pure1 R_parallel_sum)) := T.t_parallel_sum.use (ok_parallel_sum T) (fun _ _ _ _ _ _ us hl => match us, hl with | [_], _ => rfl)
theorem d_parallel_sum_0_values (T : Top K mg) : DefN P w K mg base 4 "parallel_sum" 0 ["values"] (fun us ws => ((ws.drop 0).take 1)) (spR K (pure1 R_parallel_sum)) := T.t_parallel_sum.useN (ok_parallel_sum T) ["values"] (fun us ws => ((ws.drop 0).take 1)) (fun r1 r3 => ((r3.drop 0).take 1)) (fun _ _ _ _ _ _ us ws h1 h2 => match us, ws, h1, h2 with | [], [_], _, _ => rfl)
theorem e_parallel_sum_0_values {Γ : Gm} {O O1 : OH} {tk : TA} {k0 d : PyData} {E : XK} (hk : Ea K Γ O tk [.dat k0] O1) (hR : R_parallel_sum [k0] d) : Ed K Γ O (tCallN0 1 (spR K (pure1 R_parallel_sum)) (fun us ws => ((ws.drop 0).take 1)) E tk) (.dat d) O1 := ed_callN0 (es := [k0]) (fs := [k0]) hk rfl (by
  intro Z zs r2
  cases r2 with
  | cons rk0 r2 =>
    cases r2
    exact (.cons rk0 .nil)
) hR


local macro_rules | `(tactic| walk_at "e") => `(tactic| first
  | with_reducible apply R_add.mk
  | with_reducible apply R_multiply.mk
  | with_reducible apply R_divide.mk)

/-! the draws -/
def mixI (n k : Int) : Int := (n % 2147483647 + 7919 * k * k + 31 * k) * 48271 % 2147483647 * (69621 + 2 * k) % 2147483629
theorem cm64 {i j : Int} (hi : i.natAbs < 2 ^ 64) (hj : j.natAbs < 2 ^ 64) : CMulW i j := wide_mul hi hj (by decide) (by decide) (by decide)
inductive R_mixed : List PyData → PyData → Prop
  | mk {n k : Int} (h0 : 0 ≤ k) (h1 : k < 1048576) : R_mixed [.int n, .int k] (.int (mixI n k))
theorem ok__law_mixed (T : Top K mg) : ∀ f fd, FunS K "_law_mixed" s__law_mixed [] [] f fd → FnG P w K mg base CX0 1 f fd ["_law_number", "_law_k"] (spR K (pure1 R_mixed)) := fun f fd F => def_ok1 F sc__law_mixed (fun ds d h => by cases h <;> rfl) fun X C => ⟨_, (pss_cons (q_set C 0 (pe_op op_mod (q_mul C.toCtx (q_add C.toCtx (q_add C.toCtx (pe_op op_mod (q_var C.toCtx 0) pe_int) (q_mul C.toCtx (q_mul C.toCtx pe_int (q_var C.toCtx 1)) (q_var C.toCtx 1))) (q_mul C.toCtx pe_int (q_var C.toCtx 1))) pe_int) pe_int))
    (pss_one (ps_ret (pe_op op_mod (q_mul C.toCtx (q_var C.toCtx 0) (q_add C.toCtx pe_int (q_mul C.toCtx pe_int (q_var C.toCtx 1)))) pe_int)))), fun ds d h => by
  obtain @⟨n, k, h0, h1⟩ := h
  have a0 := Int.emod_nonneg n (show (2147483647 : Int) ≠ 0 by decide)
  have a1 := Int.emod_lt_of_pos n (show (0 : Int) < 2147483647 by decide)
  have b0 : 0 ≤ 7919 * k * k := Int.mul_nonneg (by omega) h0
  have b1 : 7919 * k * k ≤ 7919 * k * 1048576 := Int.mul_le_mul_of_nonneg_left (by omega) (by omega)
  have c0 := Int.emod_nonneg ((n % 2147483647 + 7919 * k * k + 31 * k) * 48271) (show (2147483647 : Int) ≠ 0 by decide)
  have c1 := Int.emod_lt_of_pos ((n % 2147483647 + 7919 * k * k + 31 * k) * 48271) (show (0 : Int) < 2147483647 by decide)
  refine rn_seq (rn_asg (w := .dat (.int ((n % 2147483647 + 7919 * k * k + 31 * k) * 48271 % 2147483647))) (O1 := []) ?_ ?_)
  · walk_at "ev"
    · show (0 : Int) < 2147483647; decide
    · exact cm64 (by omega) (by omega)
    · exact cm64 (by omega) (by omega)
    · exact cm64 (by omega) (by omega)
    · exact cm64 (by omega) (by omega)
    · show (0 : Int) < 2147483647; decide
  · refine rn_ret (w := .dat (.int (mixI n k))) (O1 := []) ?_ ⟨rfl, rfl⟩
    unfold mixI
    walk_at "ev"
    · exact cm64 (by omega) (by omega)
    · exact cm64 (by omega) (by omega)
    · show (0 : Int) < 2147483629; decide⟩
theorem d__law_mixed (T : Top K mg) : Def P w K mg base 1 "_law_mixed" 2 [] (spR K (pure1 R_mixed)) := T.t__law_mixed.use (ok__law_mixed T) (fun _ _ _ _ _ _ us hl => match us, hl with | [_, _], _ => rfl)

/-- the state of the draws -/
structure Sm where
  x : Int
  c : Int
  m : Int
def smW (s : Sm) : MO := .lst [.dat (.int s.x), .dat (.int s.c), .dat (.int s.m)]
def drawV (s : Sm) (t : Int) : Int := if s.x = 0 then mixI (mixI s.m (s.c + 1)) 7 % t else s.x % t
def drawN (s : Sm) (t : Int) : Sm := ⟨if s.x = 0 then 0 else s.x / t, s.c + 1, s.m⟩
theorem draw_lo {s : Sm} {t : Int} (h : 0 < t) : 0 ≤ drawV s t := by
  unfold drawV
  split <;> exact Int.emod_nonneg _ (by omega)
theorem draw_hi {s : Sm} {t : Int} (h : 0 < t) : drawV s t < t := by
  unfold drawV
  split <;> exact Int.emod_lt_of_pos _ h
theorem drawN_c (s : Sm) (t : Int) : (drawN s t).c = s.c + 1 := rfl
inductive R_draw : List W → OH → W → OH → Prop
  | mk {p : Addr} {s : Sm} {t : Int} (h : 0 < t) (h1 : t < 1073741824) (c0 : 0 ≤ s.c) (c1 : s.c < 1000000) : R_draw [.own p, .dat (.int t)] [(p, smW s)] (.dat (.int (drawV s t))) [(p, smW (drawN s t))]
theorem ok__law_draw (T : Top K mg) : ∀ f fd, FunS K "_law_draw" s__law_draw [] [] f fd → FnG P w K mg base CX0 2 f fd ["_law_stream_here", "_law_top"] (spR K R_draw) := fun f fd F => def_ok F sc__law_draw (fun ws O u O' h => by cases h <;> rfl) fun X C => ⟨_, (pss_cons (ps_asg (q_add C.toCtx (q_ix C.toCtx (q_var C.toCtx 0) pe_int) pe_int) (pg_sub (q_var C.toCtx 0) pe_int set_list))
    (pss_cons (ps_if (qt_eq C.toCtx (q_ix C.toCtx (q_var C.toCtx 0) pe_int) pe_int) (pss_one (ps_ret (pe_op op_mod (q_call C.toCtx (d__law_mixed T) (pa_cons (q_call C.toCtx (d__law_mixed T) (pa_cons (q_ix C.toCtx (q_var C.toCtx 0) pe_int) (pa_cons (q_ix C.toCtx (q_var C.toCtx 0) pe_int) pa_nil))) (pa_cons pe_int pa_nil))) (q_var C.toCtx 1)))) pss_nil)
    (pss_cons (q_set C 2 (pe_op op_mod (q_ix C.toCtx (q_var C.toCtx 0) pe_int) (q_var C.toCtx 1)))
    (pss_cons (ps_asg (pe_op op_fdivW (q_ix C.toCtx (q_var C.toCtx 0) pe_int) (q_var C.toCtx 1)) (pg_sub (q_var C.toCtx 0) pe_int set_list))
    (pss_one (ps_ret (q_var C.toCtx 2))))))), fun ws O u O' h => by
  obtain @⟨p, s, t, h, h1, c0, c1⟩ := h
  refine rn_seq (rn_setO (k := 0) (j := 1) (w := .dat (.int (s.c + 1))) (p := p) (O1 := [(p, smW s)]) (O2 := [(p, smW s)]) (O3 := [(p, smW s)]) (i := 1) ?_ ?_ ?_ rfl rfl ?_)
  · unfold smW
    walk_at "ev"
  · walk_at "ev"
  · walk_at "ev"
  · show Rn K _ [(p, .lst [.dat (.int s.x), .dat (.int (s.c + 1)), .dat (.int s.m)])] _ _
    refine rn_seq (rn_if (b := decide (s.x = 0)) (O1 := [(p, .lst [.dat (.int s.x), .dat (.int (s.c + 1)), .dat (.int s.m)])]) (Et.is (b := PyData.eqv (.int s.x) (.int 0)) ?_ (eqv_int _ _)) (fun z => ?_) (fun z => rn_next ?_))
    · walk_at "ev"
    · have z : s.x = 0 := of_decide_eq_true z
      refine rn_ret (w := .dat (.int (mixI (mixI s.m (s.c + 1)) 7 % t))) (O1 := [(p, .lst [.dat (.int s.x), .dat (.int (s.c + 1)), .dat (.int s.m)])]) ?_ ⟨?_, ?_⟩
      · walk_at "ev"
        · exact .mk (by omega) (by omega)
        · exact .mk (by omega) (by omega)
        · exact h
      · unfold drawV; rw [if_pos z]
      · unfold drawN smW; rw [if_pos z, z]
    · have z : s.x ≠ 0 := of_decide_eq_false z
      refine rn_seq (rn_asg (w := .dat (.int (s.x % t))) (O1 := [(p, .lst [.dat (.int s.x), .dat (.int (s.c + 1)), .dat (.int s.m)])]) ?_ ?_)
      · walk_at "ev"
        exact h
      · refine rn_seq (rn_setO (k := 0) (j := 0) (w := .dat (.int (s.x / t))) (p := p) (ws := [.dat (.int s.x), .dat (.int (s.c + 1)), .dat (.int s.m)]) (O1 := [(p, .lst [.dat (.int s.x), .dat (.int (s.c + 1)), .dat (.int s.m)])]) (O2 := [(p, .lst [.dat (.int s.x), .dat (.int (s.c + 1)), .dat (.int s.m)])]) (O3 := [(p, .lst [.dat (.int s.x), .dat (.int (s.c + 1)), .dat (.int s.m)])]) (i := 0) ?_ ?_ ?_ rfl rfl ?_)
        · walk_at "ev"
          exact wide_div h (show t.natAbs < 2 ^ 30 by omega) (by decide) (by decide)
        · walk_at "ev"
        · walk_at "ev"
        · show Rn K _ [(p, .lst [.dat (.int (s.x / t)), .dat (.int (s.c + 1)), .dat (.int s.m)])] _ _
          refine rn_ret (w := .dat (.int (s.x % t))) (O1 := [(p, .lst [.dat (.int (s.x / t)), .dat (.int (s.c + 1)), .dat (.int s.m)])]) ?_ ⟨?_, ?_⟩
          · walk_at "ev"
          · unfold drawV; rw [if_neg z]
          · unfold drawN smW; rw [if_neg z]⟩
theorem d__law_draw (T : Top K mg) : Def P w K mg base 2 "_law_draw" 2 [] (spR K R_draw) := T.t__law_draw.use (ok__law_draw T) (fun _ _ _ _ _ _ us hl => match us, hl with | [_, _], _ => rfl)

def sm0 (n k : Int) : Sm := ⟨if 10 ^ 18 ≤ n then n else 0, 0, mixI n k⟩
inductive R_stream : List W → OH → MO → OH → Prop
  | mk {n k : Int} (h0 : 0 ≤ k) (h1 : k < 1048576) : R_stream [.dat (.int n), .dat (.int k)] [] (smW (sm0 n k)) []
theorem ok__law_stream (T : Top K mg) : ∀ f fd, FunS K "_law_stream" s__law_stream [] [] f fd → FnG P w K mg base CX0 2 f fd ["_law_item", "_law_k"] (spN K R_stream) := fun f fd F => def_okN F sc__law_stream (fun ws O u O' h => by cases h <;> rfl) fun X C => ⟨_, (pss_one (ps_ret (pe_lst (pa_cons (pe_ifExp (pt_cmpR op_ge (q_var C.toCtx 0) (pe_op op_pow pe_int pe_int) (nomark _)) (q_var C.toCtx 0) pe_int) (pa_cons pe_int (pa_cons (q_call C.toCtx (d__law_mixed T) (pa_cons (q_var C.toCtx 0) (pa_cons (q_var C.toCtx 1) pa_nil))) pa_nil)))))), fun ws O u O' h => by
  obtain @⟨n, k, h0, h1⟩ := h
  refine rn_retO (mo := smW (sm0 n k)) (O1 := []) (en_lst (ea_cons (x := .dat (.int (sm0 n k).x)) (O1 := []) ?_ (ea_cons ed_cint (ea_cons (x := .dat (.int (mixI n k))) ?_ ea_nil))) (of_decide_eq_true rfl)) (fun p => ⟨p, rfl, rfl⟩)
  · refine ed_if (b := decide (10 ^ 18 ≤ n)) (O1 := []) (et_test (Ed.is (w := .dat (.bool (decide ((10 : Int) ^ (18 : Int).toNat ≤ n)))) ?_ rfl)) (fun z => ?_) (fun z => ?_)
    · walk_at "ev"
      exact ⟨by decide, by decide, by decide⟩
    · refine Ed.is (ed_var rfl) ?_
      show W.dat (.int n) = .dat (.int (if 10 ^ 18 ≤ n then n else 0))
      rw [if_pos (of_decide_eq_true z)]
    · refine Ed.is ed_cint ?_
      show W.dat (.int 0) = .dat (.int (if 10 ^ 18 ≤ n then n else 0))
      rw [if_neg (of_decide_eq_false z)]
  · walk_at "ev"
    exact .mk h0 h1⟩
theorem d__law_stream (T : Top K mg) : Def P w K mg base 2 "_law_stream" 2 [] (spN K R_stream) := T.t__law_stream.use (ok__law_stream T) (fun _ _ _ _ _ _ us hl => match us, hl with | [_, _], _ => rfl)

inductive R_lowest : List PyData → PyData → Prop
  | mk {n m : Int} (hn : 0 < n) (hm : 0 < m) (hz : n.natAbs < 2 ^ lim) : R_lowest [.int n, .int m] (fr ((n : Rat) / (m : Rat)))
theorem ok__law_lowest (T : Top K mg) : ∀ f fd, FunS K "_law_lowest" s__law_lowest [] [] f fd → FnG P w K mg base CX0 1 f fd ["_law_above", "_law_below"] (spR K (pure1 R_lowest)) := fun f fd F => def_ok1 F sc__law_lowest (fun ds d h => by cases h <;> rfl) fun X C => ⟨_, (pss_cons (q_par C.toCtx 2 3 (pa_cons (q_var C.toCtx 0) (pa_cons (q_var C.toCtx 1) pa_nil)))
    (pss_cons (q_while C.toCtx (qt_ne C.toCtx (q_var C.toCtx 3) pe_int) (pss_one (q_par C.toCtx 2 3 (pa_cons (q_var C.toCtx 3) (pa_cons (pe_op op_mod (q_var C.toCtx 2) (q_var C.toCtx 3)) pa_nil)))))
    (pss_one (ps_ret (pe_tup (pa_cons (pe_op op_fdivW (q_var C.toCtx 0) (q_var C.toCtx 2)) (pa_cons (pe_op op_fdivW (q_var C.toCtx 1) (q_var C.toCtx 2)) pa_nil))))))), fun ds d h => by
  obtain @⟨a, b, ha, hb, hz⟩ := h
  refine rn_seq (rn_par (O1 := []) (x := .dat (.int a)) (y := .dat (.int b)) (by walk_at "ev") ?_)
  refine rn_seq (rn_while (fun m Γ O => O = [] ∧ ∃ x y : Int, Γ = [some (.dat (.int a)), some (.dat (.int b)), some (.dat (.int x)), some (.dat (.int y))] ∧ 0 ≤ x ∧ 0 ≤ y ∧ y.toNat = m ∧ Int.gcd x y = Int.gcd a b) b.toNat ⟨rfl, a, b, rfl, by omega, by omega, rfl, rfl⟩ ?_)
  rintro m Γ O ⟨rfl, x, y, rfl, hx, hy, hm, hg⟩
  apply wh
  · walk_at "ev"
  · intro hb
    rw [eqv_int] at hb
    have hy0 : y ≠ 0 := by simpa using hb
    refine rn_par (O1 := []) (x := .dat (.int y)) (y := .dat (.int (x % y))) ?_ ?_
    · walk_at "ev"
      show (0 : Int) < y
      omega
    · have h1 := Int.emod_lt_of_pos x (show (0 : Int) < y by omega)
      have h2 := Int.emod_nonneg x hy0
      exact ⟨_, by omega, rfl, y, x % y, rfl, hy, h2, rfl, by rw [gcd_turn hx hy]; exact hg⟩
  · intro hb'
    rw [eqv_int] at hb'
    have hy0 : y = 0 := by simpa using hb'
    subst hy0
    have hxg : x = (Int.gcd a b : Nat) := by
      rw [← hg]
      simp
      omega
    subst hxg
    refine rn_ret (w := .dat (.tuple [.int (a / (Int.gcd a b : Nat)), .int (b / (Int.gcd a b : Nat))])) (O1 := []) ?_ ⟨?_, rfl⟩
    · walk_at "ev"
      · exact wide_div (gcd_pos ha) (gcd_lt ha hz) (by decide) (Nat.le_refl _)
      · exact wide_div (gcd_pos ha) (gcd_lt ha hz) (by decide) (Nat.le_refl _)
    · rw [fr_red hb]⟩
theorem d__law_lowest (T : Top K mg) : Def P w K mg base 1 "_law_lowest" 2 [] (spR K (pure1 R_lowest)) := T.t__law_lowest.use (ok__law_lowest T) (fun _ _ _ _ _ _ us hl => match us, hl with | [_, _], _ => rfl)

/-- a drawn fraction -/
def fracV (s : Sm) : Rat :=
  if drawV s 8 = 0 then 1 else if drawV s 8 = 1 then ((10 ^ 30 + drawV (drawN s 8) 1000000 : Int) : Rat) / ((1 + drawV (drawN (drawN s 8) 1000000) 1000 : Int) : Rat)
  else ((1 + drawV (drawN s 8) 9 : Int) : Rat) / ((1 + drawV (drawN (drawN s 8) 9) 9 : Int) : Rat)
def fracN (s : Sm) : Sm :=
  if drawV s 8 = 0 then drawN s 8 else if drawV s 8 = 1 then drawN (drawN (drawN s 8) 1000000) 1000 else drawN (drawN (drawN s 8) 9) 9
theorem fracN_c (s : Sm) : s.c ≤ (fracN s).c ∧ (fracN s).c ≤ s.c + 3 := by
  unfold fracN
  split
  · rw [drawN_c]; omega
  · split
    · rw [drawN_c, drawN_c, drawN_c]; omega
    · rw [drawN_c, drawN_c, drawN_c]; omega
theorem fracV_pos (s : Sm) : 0 < fracV s := by
  unfold fracV
  split
  · decide
  · split
    · have h1 := draw_lo (s := drawN s 8) (t := 1000000) (by decide)
      have h2 := draw_lo (s := drawN (drawN s 8) 1000000) (t := 1000) (by decide)
      exact div_pos (cast_pos (by omega)) (cast_pos (by omega))
    · have h1 := draw_lo (s := drawN s 8) (t := 9) (by decide)
      have h2 := draw_lo (s := drawN (drawN s 8) 9) (t := 9) (by decide)
      exact div_pos (cast_pos (by omega)) (cast_pos (by omega))
theorem fracV_sz (s : Sm) : sz 101 (fracV s) := by
  unfold fracV
  split
  · exact sz_one.mono (by decide)
  · split
    · have h1 := draw_lo (s := drawN s 8) (t := 1000000) (by decide)
      have h2 := draw_lo (s := drawN (drawN s 8) 1000000) (t := 1000) (by decide)
      have h3 := draw_hi (s := drawN s 8) (t := 1000000) (by decide)
      have h4 := draw_hi (s := drawN (drawN s 8) 1000000) (t := 1000) (by decide)
      exact sz_div (by omega) (by omega) (by omega)
    · have h1 := draw_lo (s := drawN s 8) (t := 9) (by decide)
      have h2 := draw_lo (s := drawN (drawN s 8) 9) (t := 9) (by decide)
      have h3 := draw_hi (s := drawN s 8) (t := 9) (by decide)
      have h4 := draw_hi (s := drawN (drawN s 8) 9) (t := 9) (by decide)
      exact sz_div (by omega) (by omega) (by omega)
theorem lt_lim {i : Int} {a : Nat} (h : i.natAbs < 2 ^ a) (ha : a ≤ 9000) : i.natAbs < 2 ^ lim := Nat.lt_of_lt_of_le h (Nat.pow_le_pow_right (by decide) ha)
inductive R_fraction : List W → OH → W → OH → Prop
  | mk {p : Addr} {s : Sm} (c0 : 0 ≤ s.c) (c1 : s.c < 999000) : R_fraction [.own p] [(p, smW s)] (.dat (fr (fracV s))) [(p, smW (fracN s))]
theorem ok__law_fraction (T : Top K mg) : ∀ f fd, FunS K "_law_fraction" s__law_fraction [] [] f fd → FnG P w K mg base CX0 3 f fd ["_law_stream_here"] (spR K R_fraction) := fun f fd F => def_ok F sc__law_fraction (fun ws O u O' h => by cases h <;> rfl) fun X C => ⟨_, (pss_cons (q_set C 1 (q_call C.toCtx (d__law_draw T) (pa_cons (q_var C.toCtx 0) (pa_cons pe_int pa_nil))))
    (pss_cons (ps_if (qt_eq C.toCtx (q_var C.toCtx 1) pe_int) (pss_one (ps_ret (pe_tup (pa_cons pe_int (pa_cons pe_int pa_nil))))) pss_nil)
    (pss_cons (ps_if (qt_eq C.toCtx (q_var C.toCtx 1) pe_int) (pss_one (ps_ret (q_call C.toCtx (d__law_lowest T) (pa_cons (q_add C.toCtx (pe_op op_pow pe_int pe_int) (q_call C.toCtx (d__law_draw T) (pa_cons (q_var C.toCtx 0) (pa_cons (pe_op op_pow pe_int pe_int) pa_nil)))) (pa_cons (q_add C.toCtx pe_int (q_call C.toCtx (d__law_draw T) (pa_cons (q_var C.toCtx 0) (pa_cons pe_int pa_nil)))) pa_nil))))) pss_nil)
    (pss_one (ps_ret (q_call C.toCtx (d__law_lowest T) (pa_cons (q_add C.toCtx pe_int (q_call C.toCtx (d__law_draw T) (pa_cons (q_var C.toCtx 0) (pa_cons pe_int pa_nil)))) (pa_cons (q_add C.toCtx pe_int (q_call C.toCtx (d__law_draw T) (pa_cons (q_var C.toCtx 0) (pa_cons pe_int pa_nil)))) pa_nil)))))))), fun ws O u O' h => by
  obtain @⟨p, s, c0, c1⟩ := h
  refine rn_seq (rn_asg (w := .dat (.int (drawV s 8))) (O1 := [(p, smW (drawN s 8))]) (ed_callS0 (O1 := [(p, smW s)]) (by walk_at "ev") (.mk (by decide) (by decide) c0 (by omega))) ?_)
  refine rn_seq (rn_if (b := decide (drawV s 8 = 0)) (Et.is (by walk_at "ev") (eqv_int _ _)) (fun z => ?_) (fun z => rn_next ?_))
  · have z : drawV s 8 = 0 := of_decide_eq_true z
    refine rn_ret (w := .dat (.tuple [.int 1, .int 1])) (by walk_at "ev") ⟨?_, ?_⟩
    · unfold fracV; rw [if_pos z]; rfl
    · unfold fracN; rw [if_pos z]
  · have z : drawV s 8 ≠ 0 := of_decide_eq_false z
    refine rn_seq (rn_if (b := decide (drawV s 8 = 1)) (Et.is (by walk_at "ev") (eqv_int _ _)) (fun z1 => ?_) (fun z1 => rn_next ?_))
    · have z1 : drawV s 8 = 1 := of_decide_eq_true z1
      have h1 := draw_lo (s := drawN s 8) (t := 1000000) (by decide)
      have h2 := draw_lo (s := drawN (drawN s 8) 1000000) (t := 1000) (by decide)
      have h3 := draw_hi (s := drawN s 8) (t := 1000000) (by decide)
      refine rn_ret (w := .dat (fr (((10 ^ 30 + drawV (drawN s 8) 1000000 : Int) : Rat) / ((1 + drawV (drawN (drawN s 8) 1000000) 1000 : Int) : Rat)))) (O1 := [(p, smW (drawN (drawN (drawN s 8) 1000000) 1000))]) (ed_callA (ea_cons (x := .dat (.int (10 ^ 30 + drawV (drawN s 8) 1000000))) (O1 := [(p, smW (drawN (drawN s 8) 1000000))]) (ed_addA (x := .dat (.int (10 ^ 30))) (O1 := [(p, smW (drawN s 8))]) (Ed.is (w := .dat (.int ((10 : Int) ^ (30 : Int).toNat))) (by walk_at "ev"; exact ⟨by decide, by decide, by decide⟩) rfl) (ed_callS0 (ea_cons (O1 := [(p, smW (drawN s 8))]) (by walk_at "ev") (ea_cons (x := .dat (.int 1000000)) (O1 := [(p, smW (drawN s 8))]) (Ed.is (w := .dat (.int ((10 : Int) ^ (6 : Int).toNat))) (by walk_at "ev"; exact ⟨by decide, by decide, by decide⟩) rfl) ea_nil)) (.mk (by decide) (by decide) (by rw [drawN_c]; omega) (by rw [drawN_c]; omega))) .int) (ea_cons (ed_addA (O1 := [(p, smW (drawN (drawN s 8) 1000000))]) ed_cint (ed_callS0 (O1 := [(p, smW (drawN (drawN s 8) 1000000))]) (by walk_at "ev") (.mk (by decide) (by decide) (by rw [drawN_c, drawN_c]; omega) (by rw [drawN_c, drawN_c]; omega))) .int) ea_nil)) (.cons (.cons .nil)) (R_lowest.mk (by omega) (by omega) (lt_lim (a := 101) (by omega) (by decide)))) ⟨?_, ?_⟩
      · unfold fracV; rw [if_neg z, if_pos z1]
      · unfold fracN; rw [if_neg z, if_pos z1]
    · have z1 : drawV s 8 ≠ 1 := of_decide_eq_false z1
      have h1 := draw_lo (s := drawN s 8) (t := 9) (by decide)
      have h2 := draw_lo (s := drawN (drawN s 8) 9) (t := 9) (by decide)
      have h3 := draw_hi (s := drawN s 8) (t := 9) (by decide)
      refine rn_ret (w := .dat (fr (((1 + drawV (drawN s 8) 9 : Int) : Rat) / ((1 + drawV (drawN (drawN s 8) 9) 9 : Int) : Rat)))) (O1 := [(p, smW (drawN (drawN (drawN s 8) 9) 9))]) (ed_callA (ea_cons (O1 := [(p, smW (drawN (drawN s 8) 9))]) (ed_addA (O1 := [(p, smW (drawN s 8))]) ed_cint (ed_callS0 (O1 := [(p, smW (drawN s 8))]) (by walk_at "ev") (.mk (by decide) (by decide) (by rw [drawN_c]; omega) (by rw [drawN_c]; omega))) .int) (ea_cons (ed_addA (O1 := [(p, smW (drawN (drawN s 8) 9))]) ed_cint (ed_callS0 (O1 := [(p, smW (drawN (drawN s 8) 9))]) (by walk_at "ev") (.mk (by decide) (by decide) (by rw [drawN_c, drawN_c]; omega) (by rw [drawN_c, drawN_c]; omega))) .int) ea_nil)) (.cons (.cons .nil)) (R_lowest.mk (by omega) (by omega) (lt_lim (a := 101) (by omega) (by decide)))) ⟨?_, ?_⟩
      · unfold fracV; rw [if_neg z, if_neg z1]
      · unfold fracN; rw [if_neg z, if_neg z1]⟩
theorem d__law_fraction (T : Top K mg) : Def P w K mg base 3 "_law_fraction" 1 [] (spR K R_fraction) := T.t__law_fraction.use (ok__law_fraction T) (fun _ _ _ _ _ _ us hl => match us, hl with | [_], _ => rfl)

/-- several drawn fractions -/
def itN : Nat → Sm → Sm
  | 0, s => s
  | n + 1, s => fracN (itN n s)
def frs (n : Nat) (s : Sm) : List Rat := (List.range n).map fun i => fracV (itN i s)
theorem frs_succ (n : Nat) (s : Sm) : frs (n + 1) s = frs n s ++ [fracV (itN n s)] := by unfold frs; rw [List.range_succ, List.map_append]; rfl
theorem frs_length (n : Nat) (s : Sm) : (frs n s).length = n := by unfold frs; simp
theorem frs_pos {n : Nat} {s : Sm} : ∀ q ∈ frs n s, 0 < q := fun q hq => by
  obtain ⟨i, _, rfl⟩ := List.mem_map.mp hq
  exact fracV_pos _
theorem frs_sz {n : Nat} {s : Sm} : ∀ q ∈ frs n s, sz 101 q := fun q hq => by
  obtain ⟨i, _, rfl⟩ := List.mem_map.mp hq
  exact fracV_sz _
theorem itN_c (s : Sm) : ∀ n : Nat, s.c ≤ (itN n s).c ∧ (itN n s).c ≤ s.c + 3 * n
  | 0 => by unfold itN; omega
  | n + 1 => by
    have h1 := itN_c s n
    have h2 := fracN_c (itN n s)
    unfold itN
    omega
theorem en_fracs {Γ : Gm} {O : OH} {wi : TI} {ws : List W} {p : Addr} {s : Sm} {i j : Nat} {E : XK} (hi : Ei K Γ O wi ws anyO [(p, smW s)]) (hz : ws.length ≤ 1000) (hp : ∀ w, ((wipeG Γ [j]).set j (some w))[i]? = some (some (.own p))) (c0 : 0 ≤ s.c) (c1 : s.c + 3 * ws.length < 999000) :
    En K Γ O (tLc wi (gName j) tYes (tCall (spR K R_fraction) [] E (tCons (tVar i) tNil)) [j]) (.lst (dats ((frs ws.length s).map fr))) [(p, smW (itN ws.length s))] := by
  refine en_lc hi (fun n l O => n ≤ ws.length ∧ l = dats ((frs n s).map fr) ∧ O = [(p, smW (itN n s))]) ⟨Nat.zero_le _, rfl, rfl⟩ (Nat.le_trans hz (by decide)) (fun _ _ _ _ _ _ => trivial) (fun n w l O hw h => ?_) (fun l O h => ⟨h.2.1, h.2.2⟩)
  obtain ⟨hn, rfl, rfl⟩ := h
  have hlt : n < ws.length := (List.getElem?_eq_some_iff.mp hw).1
  have hc := itN_c s n
  refine ⟨_, tgc_name (by simp), true, _, et_yes, fun _ => ⟨.dat (fr (fracV (itN n s))), _, ed_callS0 (ea_cons (ed_var (hp w)) ea_nil) (.mk (by omega) (by omega)), hlt, ?_, rfl⟩, fun z => by cases z⟩
  rw [frs_succ, List.map_append, dats, dats, List.map_append]
  rfl
/-- an item of the script, with its place -/
theorem item_at {ns : List Int} {m n : Nat} {w : W} (hw : (dats (enumD (((ns.map PyData.int) ++ [PyData.int 0]).take m)))[n]? = some w) : ∃ v : Int, n < m ∧ w = .dat (.tuple [.int (n : Int), .int v]) := by
  rw [dats_get, enumD_get, List.getElem?_take] at hw
  split at hw
  · rename_i h9
    cases e : ((ns.map PyData.int) ++ [PyData.int 0])[n]? with
    | none => rw [e] at hw; cases hw
    | some d =>
      rw [e] at hw
      cases hw
      have : ∃ v, d = .int v := by
        rcases List.mem_append.mp (List.mem_of_getElem? e) with h | h
        · obtain ⟨v, _, rfl⟩ := List.mem_map.mp h
          exact ⟨v, rfl⟩
        · exact ⟨0, by simpa using h⟩
      obtain ⟨v, rfl⟩ := this
      exact ⟨v, h9, rfl⟩
  · cases hw


local macro_rules | `(tactic| walk_at "e") => `(tactic| first
  | with_reducible apply ed_repr
  | ((with_reducible apply ed_eqS) <;> ((with_reducible apply ed_repr) <;> walk_at "ev"))
  | ((with_reducible apply ed_neS) <;> ((with_reducible apply ed_repr) <;> walk_at "ev")))
theorem log2_of {i : Int} {n : Nat} (h : i.natAbs < 2 ^ n) (hn : 0 < n) : i.natAbs.log2 < n := log2_lt h hn
inductive R_make_fraction : List PyData → PyData → Prop
  | mk {n m : Int} (hn : 0 < n) (hm : 0 < m) (hz : n.natAbs < 2 ^ lim) : R_make_fraction [.int n, .int m] (fr ((n : Rat) / (m : Rat)))
theorem isInt1 {i : Int} (h : 0 < i) : R_is_integer [.int i, .int 1, .none] (.bool true) := by
  have := R_is_integer.none (v := .int i) (l := 1)
  rwa [show isInt (.int i) 1 .none = true by unfold isInt; simp; omega] at this
theorem ok_make_fraction (T : Top K mg) : ∀ f fd, FunS K "make_fraction" s_make_fraction [] [] f fd → FnG P w K mg base CX0 3 f fd ["numerator", "denominator"] (spR K (pure1 R_make_fraction)) := fun f fd F => def_ok1 F sc_make_fraction (fun ds d h => by cases h <;> rfl) fun X C => ⟨_, (pss_cons (q_for C.toCtx (q_iSeq C.toCtx (pe_tup (pa_cons (q_var C.toCtx 0) (pa_cons (q_var C.toCtx 1) pa_nil)))) (q_name C 2) (pss_one (ps_if (pt_not (pt_val (q_callN C.toCtx (d_is_integer_1_least T) (pa_cons (q_var C.toCtx 2) pa_nil) (pk_cons pe_int pk_nil)))) (pss_one ps_never) pss_nil)))
    (pss_one (ps_ret (q_call C.toCtx (d_reduced T) (pa_cons (q_var C.toCtx 0) (pa_cons (q_var C.toCtx 1) pa_nil)))))), fun ds d h => by
  obtain @⟨n, m, hn, hm, hz⟩ := h
  refine rn_seq (rn_for (ws := dats [.int n, .int m]) (C := anyO) (O1 := []) (ei_seq (by walk_at "ev") (.tup _)) (fun _ Γ O => O = [] ∧ ∃ a, Γ = [some (.dat (.int n)), some (.dat (.int m)), a]) ⟨rfl, none, rfl⟩ (fun _ _ _ _ _ => trivial) ?_ ?_)
  · rintro k w Γ O hw ⟨rfl, a, rfl⟩
    obtain ⟨i, hi, rfl⟩ : ∃ i : Int, 0 < i ∧ w = .dat (.int i) := by
      match k, hw with
      | 0, hw => exact ⟨n, hn, by cases hw; rfl⟩
      | 1, hw => exact ⟨m, hm, by cases hw; rfl⟩
    exact ⟨_, tg_name, rn_if (b := false) (et_not (b := true) (et_B (e_is_integer_1_least (ea_cons (ed_var rfl) ea_nil) (ea_cons ed_cint ea_nil) (isInt1 hi)))) (fun z => by cases z) (fun _ => rn_next ⟨rfl, _, rfl⟩)⟩
  · rintro Γ O ⟨rfl, a, rfl⟩
    refine rn_ret (w := .dat (fr ((n : Rat) / (m : Rat)))) (O1 := []) ?_ ⟨rfl, rfl⟩
    walk_at "ev"
    exact .mk hn hm hz⟩
theorem d_make_fraction (T : Top K mg) : Def P w K mg base 3 "make_fraction" 2 [] (spR K (pure1 R_make_fraction)) := T.t_make_fraction.use (ok_make_fraction T) (fun _ _ _ _ _ _ us hl => match us, hl with | [_, _], _ => rfl)
theorem d_make_fraction_0_denominator_numerator (T : Top K mg) : DefN P w K mg base 3 "make_fraction" 0 ["denominator", "numerator"] (fun us ws => ((ws.drop 1).take 1) ++ ((ws.drop 0).take 1)) (spR K (pure1 R_make_fraction)) := T.t_make_fraction.useN (ok_make_fraction T) ["denominator", "numerator"] (fun us ws => ((ws.drop 1).take 1) ++ ((ws.drop 0).take 1)) (fun r1 r3 => (((r3.drop 1).take 1).append ((r3.drop 0).take 1))) (fun _ _ _ _ _ _ us ws h1 h2 => match us, ws, h1, h2 with | [], [_, _], _, _ => rfl)
theorem e_make_fraction_0_denominator_numerator {Γ : Gm} {O O1 : OH} {tk : TA} {k0 k1 d : PyData} {E : XK} (hk : Ea K Γ O tk [.dat k0, .dat k1] O1) (hR : R_make_fraction [k1, k0] d) : Ed K Γ O (tCallN0 2 (spR K (pure1 R_make_fraction)) (fun us ws => ((ws.drop 1).take 1) ++ ((ws.drop 0).take 1)) E tk) (.dat d) O1 := ed_callN0 (es := [k0, k1]) (fs := [k1, k0]) hk rfl (by
  intro Z zs r2
  cases r2 with
  | cons rk0 r2 =>
    cases r2 with
    | cons rk1 r2 =>
      cases r2
      exact (.cons rk1 (.cons rk0 .nil))
) hR

theorem low_add {p q : Rat} (hp : 0 < p) (hq : 0 < q) (sp : sz 101 p) (sq : sz 101 q) : R_lowest [.int (p.num * (q.den : Int) + q.num * (p.den : Int)), .int ((p.den : Int) * (q.den : Int))] (fr (p + q)) := by
  have h1 := Int.mul_pos (num_pos hp) (den_pos q)
  have h2 := Int.mul_pos (num_pos hq) (den_pos p)
  have h3 := wide_add (wide_lt sp.1 sq.den) (wide_lt sq.1 sp.den)
  have := R_lowest.mk (n := p.num * (q.den : Int) + q.num * (p.den : Int)) (by omega) (Int.mul_pos (den_pos p) (den_pos q)) (Nat.lt_of_lt_of_le h3 (Nat.pow_le_pow_right (by decide) (by decide)))
  rwa [add_frac] at this
theorem low_mul {p q : Rat} (hp : 0 < p) (hq : 0 < q) (sp : sz 101 p) (sq : sz 101 q) : R_lowest [.int (p.num * q.num), .int ((p.den : Int) * (q.den : Int))] (fr (p * q)) := by
  have := R_lowest.mk (n := p.num * q.num) (Int.mul_pos (num_pos hp) (num_pos hq)) (Int.mul_pos (den_pos p) (den_pos q)) (Nat.lt_of_lt_of_le (wide_lt sp.1 sq.1) (Nat.pow_le_pow_right (by decide) (by decide)))
  rwa [mul_frac] at this
theorem low_div {p q : Rat} (hp : 0 < p) (hq : 0 < q) (sp : sz 101 p) (sq : sz 101 q) : R_lowest [.int (p.num * (q.den : Int)), .int ((p.den : Int) * q.num)] (fr (p / q)) := by
  have := low_mul hp (Rat.inv_pos.mpr hq) sp (sz_inv hq sq)
  rwa [num_inv_pos hq, den_inv_pos hq, ← Rat.div_def] at this
theorem sh3 {a b c : Rat} (ha : sz 300 a) (hb : sz 300 b) (hc : sz 300 c) : Shows (.list [fr a, fr b, fr c]) :=
  Sh.ok (Sh.list (ShAll.cons (sh_fr (k := 0) ha (by decide)) (ShAll.cons (sh_fr hb (by decide)) (ShAll.cons (sh_fr hc (by decide)) ShAll.nil)))) (by decide) (by decide)
inductive R_pair : List PyData → PyData → Prop
  | mk {p q : Rat} (hp : 0 < p) (hq : 0 < q) (sp : sz 101 p) (sq : sz 101 q) : R_pair [fr p, fr q] (.bool true)
theorem ok__law_pair_right (T : Top K mg) : ∀ f fd, FunS K "_law_pair_right" s__law_pair_right [] [] f fd → FnG P w K mg base CX0 5 f fd ["_law_left", "_law_right"] (spR K (pure1 R_pair)) := fun f fd F => def_ok1 F sc__law_pair_right (fun ds d h => by cases h <;> rfl) fun X C => ⟨_, (pss_cons (q_asgT C.toCtx (pe_tup (pa_cons (q_var C.toCtx 0) (pa_cons (q_var C.toCtx 1) pa_nil))) (q_seq C.toCtx (pgs_cons (q_seq C.toCtx (pgs_cons (q_name C 4) (pgs_cons (q_name C 5) pgs_nil))) (pgs_cons (q_seq C.toCtx (pgs_cons (q_name C 6) (pgs_cons (q_name C 7) pgs_nil))) pgs_nil))))
    (pss_cons (q_set C 2 (pe_lst (pa_cons (q_call C.toCtx (d__law_lowest T) (pa_cons (q_add C.toCtx (q_mul C.toCtx (q_var C.toCtx 4) (q_var C.toCtx 7)) (q_mul C.toCtx (q_var C.toCtx 6) (q_var C.toCtx 5))) (pa_cons (q_mul C.toCtx (q_var C.toCtx 5) (q_var C.toCtx 7)) pa_nil))) (pa_cons (q_call C.toCtx (d__law_lowest T) (pa_cons (q_mul C.toCtx (q_var C.toCtx 4) (q_var C.toCtx 6)) (pa_cons (q_mul C.toCtx (q_var C.toCtx 5) (q_var C.toCtx 7)) pa_nil))) (pa_cons (q_call C.toCtx (d__law_lowest T) (pa_cons (q_mul C.toCtx (q_var C.toCtx 4) (q_var C.toCtx 7)) (pa_cons (q_mul C.toCtx (q_var C.toCtx 5) (q_var C.toCtx 6)) pa_nil))) pa_nil)))))
    (pss_cons (q_set C 3 (pe_lst (pa_cons (q_call C.toCtx (d_add T) (pa_cons (q_var C.toCtx 0) (pa_cons (q_var C.toCtx 1) pa_nil))) (pa_cons (q_call C.toCtx (d_multiply T) (pa_cons (q_var C.toCtx 0) (pa_cons (q_var C.toCtx 1) pa_nil))) (pa_cons (q_call C.toCtx (d_divide T) (pa_cons (q_var C.toCtx 0) (pa_cons (q_var C.toCtx 1) pa_nil))) pa_nil)))))
    (pss_cons (ps_if (qt_ne C.toCtx (q_repr C.toCtx T.b_repr (pa_cons (q_var C.toCtx 3) pa_nil)) (q_repr C.toCtx T.b_repr (pa_cons (q_var C.toCtx 2) pa_nil))) (pss_one (ps_ret pe_bl)) pss_nil)
    (pss_cons (q_set C 3 (pe_lst (pa_cons (q_callN0 C.toCtx (d_add_0_second_first T) (pk_cons (q_var C.toCtx 1) (pk_cons (q_var C.toCtx 0) pk_nil))) (pa_cons (q_callN0 C.toCtx (d_multiply_0_second_first T) (pk_cons (q_var C.toCtx 1) (pk_cons (q_var C.toCtx 0) pk_nil))) (pa_cons (q_callN0 C.toCtx (d_divide_0_second_first T) (pk_cons (q_var C.toCtx 1) (pk_cons (q_var C.toCtx 0) pk_nil))) pa_nil)))))
    (pss_one (ps_ret (q_eq C.toCtx (q_repr C.toCtx T.b_repr (pa_cons (q_var C.toCtx 3) pa_nil)) (q_repr C.toCtx T.b_repr (pa_cons (q_var C.toCtx 2) pa_nil)))))))))), fun ds d h => by
  obtain @⟨p, q, hp, hq, sp, sq⟩ := h
  have sA : sz 300 (p + q) := (sz_add sp sq).mono (by decide)
  have sB : sz 300 (p * q) := (sz_mul sp sq).mono (by decide)
  have sC : sz 300 (p / q) := (sz_quo hq sp sq).mono (by decide)
  refine rn_seq (rn_asgT (w := .dat (.tuple [fr p, fr q])) (O1 := []) (by walk_at "ev") (tg_seqT (tgs_cons (tg_seqT (tgs_cons tg_name (tgs_cons tg_name tgs_nil)) rfl) (tgs_cons (tg_seqT (tgs_cons tg_name (tgs_cons tg_name tgs_nil)) rfl) tgs_nil)) rfl) ?_)
  refine rn_let (w := .dat (.list [fr (p + q), fr (p * q), fr (p / q)])) (O1 := []) ?_ ?_
  · walk_at "ev"
    · exact wide_mul sp.1 sq.den (by decide) (by decide) (by decide)
    · exact wide_mul sq.1 sp.den (by decide) (by decide) (by decide)
    · exact wide_mul sp.den sq.den (by decide) (by decide) (by decide)
    · exact low_add hp hq sp sq
    · exact wide_mul sp.1 sq.1 (by decide) (by decide) (by decide)
    · exact wide_mul sp.den sq.den (by decide) (by decide) (by decide)
    · exact low_mul hp hq sp sq
    · exact wide_mul sp.1 sq.den (by decide) (by decide) (by decide)
    · exact wide_mul sp.den sq.1 (by decide) (by decide) (by decide)
    · exact low_div hp hq sp sq
  apply rn_let (O1 := [])
  · walk_at "ev"
  apply rn_guard (O1 := [])
  · walk_at "ev"
    · exact sh3 sA sB sC
    · exact sh3 sA sB sC
  · simp
  refine rn_let (w := .dat (.list [fr (p + q), fr (p * q), fr (p / q)])) (O1 := []) ?_ ?_
  · refine ed_lstA (ea_cons (e_add_0_second_first (ea_cons (ed_var rfl) (ea_cons (ed_var rfl) ea_nil)) (.mk hp hq sp sq (by decide))) (ea_cons (e_multiply_0_second_first (ea_cons (ed_var rfl) (ea_cons (ed_var rfl) ea_nil)) (.mk hp hq sp sq (by decide))) (ea_cons (e_divide_0_second_first (ea_cons (ed_var rfl) (ea_cons (ed_var rfl) ea_nil)) (.mk hp hq sp sq (by decide))) ea_nil))) (.cons (.cons (.cons .nil))) (of_decide_eq_true rfl)
  refine rn_is (w := .dat (.bool (PyData.shown (.list [fr (p + q), fr (p * q), fr (p / q)]) == PyData.shown (.list [fr (p + q), fr (p * q), fr (p / q)])))) (O1 := []) (D := toRet (.dat (.bool true)) []) ?_ (by simp) rfl
  walk_at "ev"
  · exact sh3 sA sB sC
  · exact sh3 sA sB sC⟩
theorem d__law_pair_right (T : Top K mg) : Def P w K mg base 5 "_law_pair_right" 2 [] (spR K (pure1 R_pair)) := T.t__law_pair_right.use (ok__law_pair_right T) (fun _ _ _ _ _ _ us hl => match us, hl with | [_, _], _ => rfl)

/-- the law's own sum of reciprocals: above, below -/
def abs2 : List Rat → Int × Int → Int × Int
  | [], s => s
  | q :: qs, s => abs2 qs (s.1 * q.num + (q.den : Int) * s.2, s.2 * q.num)
theorem abs2_snoc (qs : List Rat) (q : Rat) : ∀ s, abs2 (qs ++ [q]) s = ((abs2 qs s).1 * q.num + (q.den : Int) * (abs2 qs s).2, (abs2 qs s).2 * q.num) := by
  induction qs with
  | nil => intro s; rfl
  | cons x xs ih => intro s; exact ih _
structure AB (n : Nat) (qs : List Rat) (s : Int × Int) : Prop where
  e : (s.1 : Rat) = (s.2 : Rat) * isum qs
  p : 0 < s.2
  a : 0 ≤ s.1
  z1 : s.1.natAbs < 2 ^ (102 * n + 1)
  z2 : s.2.natAbs < 2 ^ (102 * n + 1)
theorem num_den (q : Rat) (h : 0 < q) : (q.num : Rat) * q⁻¹ = ((q.den : Int) : Rat) := by
  have h1 : (q.num : Rat) / ((q.den : Int) : Rat) = q := by
    have := mul_frac 1 q
    rw [Rat.one_mul] at this
    rwa [show (1 : Rat).num * q.num = q.num from Int.one_mul _, show ((1 : Rat).den : Int) * (q.den : Int) = (q.den : Int) from Int.one_mul _] at this
  have hn := ne0 (cast_pos (num_pos h))
  have hd := ne0 (cast_pos (den_pos q))
  have hq := ne0 h
  generalize (q.num : Rat) = a at *
  generalize ((q.den : Int) : Rat) = b at *
  grind
theorem isum_snoc (qs : List Rat) (q : Rat) : isum (qs ++ [q]) = isum qs + q⁻¹ := by rw [isum_append, isum_cons, isum_nil, Rat.add_zero]
theorem AB.step {n : Nat} {qs : List Rat} {s : Int × Int} {q : Rat} (h : AB n qs s) (hq : 0 < q) (sq : sz 101 q) : AB (n + 1) (qs ++ [q]) (s.1 * q.num + (q.den : Int) * s.2, s.2 * q.num) := by
  obtain ⟨e, p, a, z1, z2⟩ := h
  have hn := num_pos hq
  have hd := den_pos q
  refine ⟨?_, Int.mul_pos p hn, ?_, ?_, ?_⟩
  · rw [isum_snoc]
    have := num_den q hq
    rw [Rat.intCast_add, Rat.intCast_mul, Rat.intCast_mul, Rat.intCast_mul, e, ← this]
    grind
  · have := Int.mul_nonneg a (Int.le_of_lt hn)
    have := Int.mul_pos hd p
    show 0 ≤ s.1 * q.num + (q.den : Int) * s.2
    omega
  · have h1 := wide_lt z1 sq.1
    have h2 := wide_lt sq.den z2
    have h3 := wide_add h1 (show ((q.den : Int) * s.2).natAbs < 2 ^ (102 * n + 1 + 101) by rw [Nat.add_comm]; exact h2)
    rw [show 102 * (n + 1) + 1 = 102 * n + 1 + 101 + 1 by omega]
    exact h3
  · exact Nat.lt_of_lt_of_le (wide_lt z2 sq.1) (Nat.pow_le_pow_right (by decide) (by omega))
inductive R_par : List PyData → PyData → Prop
  | mk {qs : List Rat} (hn : qs ≠ []) (hl : qs.length ≤ 6) (hp : ∀ q ∈ qs, 0 < q) (hs : ∀ q ∈ qs, sz 101 q) : R_par [.tuple (qs.map fr)] (.bool true)
theorem ok__law_parallel_right (T : Top K mg) : ∀ f fd, FunS K "_law_parallel_right" s__law_parallel_right [] [] f fd → FnG P w K mg base CX0 5 f fd ["_law_some"] (spR K (pure1 R_par)) := fun f fd F => def_ok1 F sc__law_parallel_right (fun ds d h => by cases h <;> rfl) fun X C => ⟨_, (pss_cons (q_asgT C.toCtx (pe_tup (pa_cons pe_int (pa_cons pe_int pa_nil))) (q_seq C.toCtx (pgs_cons (q_name C 2) (pgs_cons (q_name C 3) pgs_nil))))
    (pss_cons (q_for C.toCtx (q_iSeq C.toCtx (q_var C.toCtx 0)) (q_seq C.toCtx (pgs_cons (q_name C 4) (pgs_cons (q_name C 5) pgs_nil))) (pss_one (q_par C.toCtx 2 3 (pa_cons (q_add C.toCtx (q_mul C.toCtx (q_var C.toCtx 2) (q_var C.toCtx 4)) (q_mul C.toCtx (q_var C.toCtx 5) (q_var C.toCtx 3))) (pa_cons (q_mul C.toCtx (q_var C.toCtx 3) (q_var C.toCtx 4)) pa_nil)))))
    (pss_cons (q_set C 1 (q_call C.toCtx (d__law_lowest T) (pa_cons (q_var C.toCtx 3) (pa_cons (q_var C.toCtx 2) pa_nil))))
    (pss_one (ps_ret (q_eq C.toCtx (q_repr C.toCtx T.b_repr (pa_cons (pe_lst (pa_cons (q_call C.toCtx (d_parallel_sum T) (pa_cons (q_var C.toCtx 0) pa_nil)) (pa_cons (q_callN0 C.toCtx (d_parallel_sum_0_values T) (pk_cons (q_list C.toCtx T.b_list (pa_cons (q_var C.toCtx 0) pa_nil)) pk_nil)) pa_nil))) pa_nil)) (q_repr C.toCtx T.b_repr (pa_cons (pe_lst (pa_cons (q_var C.toCtx 1) (pa_cons (q_var C.toCtx 1) pa_nil))) pa_nil)))))))), fun ds d h => by
  obtain @⟨qs, hn, hl, hp, hs⟩ := h
  refine rn_seq (rn_asgT (w := .dat (.tuple [.int 0, .int 1])) (O1 := []) (by walk_at "ev") (tg_seqT (tgs_cons tg_name (tgs_cons tg_name tgs_nil)) rfl) ?_)
  refine rn_seq (rn_for (ws := dats (qs.map fr)) (C := anyO) (O1 := []) (ei_seq (by walk_at "ev") (.tup _)) (fun n Γ O => O = [] ∧ ∃ (a b : Option W) (s : Int × Int), AB n (qs.take n) s ∧ Γ = [some (.dat (.tuple (qs.map fr))), none, some (.dat (.int s.1)), some (.dat (.int s.2)), a, b]) ⟨rfl, none, none, (0, 1), ⟨by simp [isum_nil], by decide, by decide, by decide, by decide⟩, rfl⟩ (fun _ _ _ _ _ => trivial) ?_ ?_)
  · rintro n w Γ O hw ⟨rfl, a, b, s, ab, rfl⟩
    rw [dats_get, List.getElem?_map] at hw
    cases e : qs[n]? with
    | none => rw [e] at hw; cases hw
    | some q =>
      rw [e] at hw
      cases hw
      have hm := List.mem_of_getElem? e
      have hlt := (List.getElem?_eq_some_iff.mp e).1
      have sq := hs q hm
      refine ⟨_, tg_seqT (tgs_cons tg_name (tgs_cons tg_name tgs_nil)) rfl, rn_par (O1 := []) (x := .dat (.int (s.1 * q.num + (q.den : Int) * s.2))) (y := .dat (.int (s.2 * q.num))) ?_ ⟨rfl, _, _, (_, _), ?_, rfl⟩⟩
      · walk_at "ev"
        · exact wide_mul ab.z1 sq.1 (by omega) (by decide) (by omega)
        · exact wide_mul sq.den ab.z2 (by decide) (by omega) (by omega)
        · exact wide_mul ab.z2 sq.1 (by omega) (by decide) (by omega)
      · rw [List.take_succ, e]
        exact ab.step (hp q hm) sq
  · rintro Γ O ⟨rfl, a, b, s, ab, rfl⟩
    rw [dats_length, List.length_map, List.take_length] at ab
    have hi := isum_pos hp hn
    have hb := cast_pos ab.p
    have h1 : 0 < s.1 := Rat.intCast_pos.mp (by rw [ab.e]; exact Rat.mul_pos hb hi)
    have hlow : R_lowest [.int s.2, .int s.1] (fr (psum qs)) := by
      have := R_lowest.mk (n := s.2) (m := s.1) ab.p h1 (lt_lim ab.z2 (by omega))
      rwa [ab.e, show (s.2 : Rat) / ((s.2 : Rat) * isum qs) = psum qs by
        unfold psum
        have := ne0 hb
        have := ne0 hi
        grind] at this
    have hsum : ∀ {d : PyData}, SeqD d (qs.map fr) → R_parallel_sum [d] (fr (psum qs)) := fun hd => .mk (n := 101) hd hn hp hs (by omega) (by omega)
    have hz : sz 612 (psum qs) := (psum_sz hp hs hn).mono (by omega)
    have hsh : Shows (.list [fr (psum qs), fr (psum qs)]) := Sh.ok (Sh.list (ShAll.cons (sh_fr (k := 0) hz (by decide)) (ShAll.cons (sh_fr hz (by decide)) ShAll.nil))) (by decide) (by decide)
    refine rn_let (w := .dat (fr (psum qs))) (O1 := []) ?_ ?_
    · walk_at "ev"
      exact hlow
    refine rn_is (w := .dat (.bool (PyData.shown (.list [fr (psum qs), fr (psum qs)]) == PyData.shown (.list [fr (psum qs), fr (psum qs)])))) (O1 := []) (D := toRet (.dat (.bool true)) []) (ed_eqS (ed_repr (ea_cons (ed_lstA (ea_cons (ed_callA (ea_cons (ed_var rfl) ea_nil) (.cons .nil) (hsum (.tup _))) (ea_cons (e_parallel_sum_0_values (ea_cons (ed_listA (ea_cons (ed_var rfl) ea_nil) (.tup _)) ea_nil) (hsum (.lst _))) ea_nil)) (.cons (.cons .nil)) (of_decide_eq_true rfl)) ea_nil) hsh) (ed_repr (O1 := []) ?_ hsh)) (by simp) rfl
    walk_at "ev"⟩
theorem d__law_parallel_right (T : Top K mg) : Def P w K mg base 5 "_law_parallel_right" 1 [] (spR K (pure1 R_par)) := T.t__law_parallel_right.use (ok__law_parallel_right T) (fun _ _ _ _ _ _ us hl => match us, hl with | [_], _ => rfl)

inductive R_low : List W → OH → W → OH → Prop
  | mk {p : Addr} {s : Sm} {q : Rat} (h : 0 < q) (hz : sz 101 q) (c0 : 0 ≤ s.c) (c1 : s.c < 999000) : R_low [.own p, .dat (fr q)] [(p, smW s)] (.dat (.bool true)) [(p, smW (drawN s 50))]
theorem frac_wide {q : Rat} {f : Int} (hq : 0 < q) (hf : 1 ≤ f) : isFrac (.tuple [.int (q.num * f), .int ((q.den : Int) * f)]) = decide (f = 1) := by
  have hn := num_pos hq
  have hd := den_pos q
  have h1 := Int.mul_pos hn (show 0 < f by omega)
  have h2 := Int.mul_pos hd (show 0 < f by omega)
  have hg : Int.gcd (q.num * f) ((q.den : Int) * f) = f.natAbs := by rw [Int.gcd_mul_right, gcd_fr, Nat.one_mul]
  show (decide (1 ≤ q.num * f) && decide (1 ≤ (q.den : Int) * f) && decide (Int.gcd (q.num * f) ((q.den : Int) * f) = 1)) = _
  rw [hg, decide_eq_true (show 1 ≤ q.num * f by omega), decide_eq_true (show 1 ≤ (q.den : Int) * f by omega), Bool.true_and, Bool.true_and]
  congr 1
  exact propext (by omega)
theorem wide_back {q : Rat} {f : Int} (hq : 0 < q) (hf : 1 ≤ f) (hz : sz 101 q) (h5 : f ≤ 50) : R_make_fraction [.int (q.num * f), .int ((q.den : Int) * f)] (fr q) := by
  have h1 := Int.mul_pos (num_pos hq) (show 0 < f by omega)
  have h2 := Int.mul_pos (den_pos q) (show 0 < f by omega)
  have := R_make_fraction.mk h1 h2 (Nat.lt_of_lt_of_le (wide_lt hz.1 (show f.natAbs < 2 ^ 6 by omega)) (Nat.pow_le_pow_right (by decide) (by decide)))
  have e : ((q.num * f : Int) : Rat) / (((q.den : Int) * f : Int) : Rat) = q := by
    have h := mul_frac 1 q
    rw [Rat.one_mul] at h
    rw [show (1 : Rat).num * q.num = q.num from Int.one_mul _, show ((1 : Rat).den : Int) * (q.den : Int) = (q.den : Int) from Int.one_mul _] at h
    have hf := ne0 (cast_pos (show 0 < f by omega))
    have hd := ne0 (cast_pos (den_pos q))
    rw [Rat.intCast_mul, Rat.intCast_mul]
    generalize (q.num : Rat) = a at *
    generalize ((q.den : Int) : Rat) = b at *
    generalize (f : Rat) = c at *
    grind
  rwa [e] at this
theorem R_is_fraction.two {a b : PyData} {c : Bool} (h : isFrac (.tuple [a, b]) = c) : R_is_fraction [.tuple [a, b]] (.bool c) := by
  subst h
  exact .mk fun ds e => by injection e with e; subst e; exact of_decide_eq_true rfl
theorem shB {a b c d : Bool} : Shows (.list [.bool a, .bool b, .bool c, .bool d]) := Sh.ok (Sh.list (ShAll.cons (Sh.bool (k := 0) a) (ShAll.cons (Sh.bool b) (ShAll.cons (Sh.bool c) (ShAll.cons (Sh.bool d) ShAll.nil))))) (by decide) (by decide)
theorem ok__law_lowest_right (T : Top K mg) : ∀ f fd, FunS K "_law_lowest_right" s__law_lowest_right [] [] f fd → FnG P w K mg base CX0 4 f fd ["_law_stream_here", "_law_left"] (spR K R_low) := fun f fd F => def_ok F sc__law_lowest_right (fun ws O u O' h => by cases h <;> rfl) fun X C => ⟨_, (pss_cons (q_set C 2 (q_add C.toCtx pe_int (q_call C.toCtx (d__law_draw T) (pa_cons (q_var C.toCtx 0) (pa_cons pe_int pa_nil)))))
    (pss_cons (q_set C 3 (pe_tup (pa_cons (q_mul C.toCtx (q_ix C.toCtx (q_var C.toCtx 1) pe_int) (q_var C.toCtx 2)) (pa_cons (q_mul C.toCtx (q_ix C.toCtx (q_var C.toCtx 1) pe_int) (q_var C.toCtx 2)) pa_nil))))
    (pss_cons (q_set C 4 (pe_lst (pa_cons (q_call C.toCtx (d_make_fraction T) (pa_cons (q_ix C.toCtx (q_var C.toCtx 3) pe_int) (pa_cons (q_ix C.toCtx (q_var C.toCtx 3) pe_int) pa_nil))) (pa_cons (q_callN0 C.toCtx (d_make_fraction_0_denominator_numerator T) (pk_cons (q_ix C.toCtx (q_var C.toCtx 3) pe_int) (pk_cons (q_ix C.toCtx (q_var C.toCtx 3) pe_int) pk_nil))) pa_nil))))
    (pss_cons (ps_if (qt_ne C.toCtx (q_repr C.toCtx T.b_repr (pa_cons (q_var C.toCtx 4) pa_nil)) (q_repr C.toCtx T.b_repr (pa_cons (pe_lst (pa_cons (q_var C.toCtx 1) (pa_cons (q_var C.toCtx 1) pa_nil))) pa_nil))) (pss_one (ps_ret pe_bl)) pss_nil)
    (pss_cons (q_set C 4 (pe_lst (pa_cons (q_call C.toCtx (d_is_fraction T) (pa_cons (q_var C.toCtx 1) pa_nil)) (pa_cons (q_callN0 C.toCtx (d_is_fraction_0_value T) (pk_cons (q_var C.toCtx 3) pk_nil)) (pa_cons (q_call C.toCtx (d_is_fraction T) (pa_cons (pe_tup (pa_cons (q_ix C.toCtx (q_var C.toCtx 1) pe_int) (pa_cons pe_int pa_nil))) pa_nil)) (pa_cons (q_call C.toCtx (d_is_fraction T) (pa_cons (pe_tup (pa_cons (pe_op op_sub pe_int (q_ix C.toCtx (q_var C.toCtx 1) pe_int)) (pa_cons (q_ix C.toCtx (q_var C.toCtx 1) pe_int) pa_nil))) pa_nil)) pa_nil))))))
    (pss_one (ps_ret (q_eq C.toCtx (q_repr C.toCtx T.b_repr (pa_cons (q_var C.toCtx 4) pa_nil)) (q_repr C.toCtx T.b_repr (pa_cons (pe_lst (pa_cons pe_bl (pa_cons (q_eq C.toCtx (q_var C.toCtx 2) pe_int) (pa_cons pe_bl (pa_cons pe_bl pa_nil))))) pa_nil)))))))))), fun ws O u O' h => by
  obtain @⟨p, s, q, h, hz, c0, c1⟩ := h
  have t0 := draw_lo (s := s) (t := 50) (by decide)
  have t1 := draw_hi (s := s) (t := 50) (by decide)
  refine rn_let (w := .dat (.int (1 + drawV s 50))) (O1 := [(p, smW (drawN s 50))]) (ed_addA (O1 := [(p, smW s)]) ed_cint (ed_callS0 (O1 := [(p, smW s)]) (by walk_at "ev") (.mk (by decide) (by decide) (by omega) (by omega))) .int) ?_
  generalize drawN s 50 = s1
  have u0 : 1 ≤ 1 + drawV s 50 := by omega
  have u1 : 1 + drawV s 50 ≤ 50 := by omega
  generalize 1 + drawV s 50 = f at u0 u1 ⊢
  have hf6 : f.natAbs < 2 ^ 6 := by omega
  have sh2 : Shows (.list [fr q, fr q]) := Sh.ok (Sh.list (ShAll.cons (sh_fr (k := 0) hz (by decide)) (ShAll.cons (sh_fr hz (by decide)) ShAll.nil))) (by decide) (by decide)
  refine rn_let (w := .dat (.tuple [.int (q.num * f), .int ((q.den : Int) * f)])) (O1 := [(p, smW s1)]) ?_ ?_
  · walk_at "ev"
    · exact wide_mul hz.1 hf6 (by decide) (by decide) (by decide)
    · exact wide_mul hz.den hf6 (by decide) (by decide) (by decide)
  refine rn_let (w := .dat (.list [fr q, fr q])) (O1 := [(p, smW s1)]) (ed_lstA (ea_cons (O1 := [(p, smW s1)]) (x := .dat (fr q)) ?_ (ea_cons (x := .dat (fr q)) (O1 := [(p, smW s1)]) (e_make_fraction_0_denominator_numerator (k0 := .int ((q.den : Int) * f)) (k1 := .int (q.num * f)) ?_ (wide_back h u0 hz u1)) ea_nil)) (.cons (.cons .nil)) (of_decide_eq_true rfl)) ?_
  · walk_at "ev"
    exact wide_back h u0 hz u1
  · walk_at "ev"
  apply rn_guard (O1 := [(p, smW s1)])
  · walk_at "ev"
    · exact sh2
    · exact sh2
  · simp
  have hl0 : isFrac (.tuple [.int q.num, .int 0]) = false := by
    show (decide _ && decide ((1 : Int) ≤ 0) && decide _) = false
    simp
  have hl1 : isFrac (.tuple [.int (0 - q.num), .int (q.den : Int)]) = false := by
    have := num_pos h
    show (decide (1 ≤ 0 - q.num) && decide _ && decide _) = false
    rw [decide_eq_false (by omega)]
    rfl
  refine rn_let (w := .dat (.list [.bool true, .bool (decide (f = 1)), .bool false, .bool false])) (O1 := [(p, smW s1)]) (ed_lstA (ea_cons (O1 := [(p, smW s1)]) (x := .dat (.bool true)) ?_ (ea_cons (x := .dat (.bool (decide (f = 1)))) (O1 := [(p, smW s1)]) (e_is_fraction_0_value (k0 := .tuple [.int (q.num * f), .int ((q.den : Int) * f)]) ?_ (.two (frac_wide h u0))) (ea_cons (O1 := [(p, smW s1)]) (x := .dat (.bool false)) ?_ (ea_cons (O1 := [(p, smW s1)]) (x := .dat (.bool false)) ?_ ea_nil)))) (.cons (.cons (.cons (.cons .nil)))) (of_decide_eq_true rfl)) ?_
  · walk_at "ev"
    exact .fr h
  · walk_at "ev"
  · walk_at "ev"
    exact .two hl0
  · walk_at "ev"
    exact .two hl1
  refine rn_is (w := .dat (.bool (PyData.shown (.list [.bool true, .bool (decide (f = 1)), .bool false, .bool false]) == PyData.shown (.list [.bool true, .bool (decide (f = 1)), .bool false, .bool false])))) (O1 := [(p, smW s1)]) (D := toRet (.dat (.bool true)) [(p, smW s1)]) (ed_eqS (ed_repr (O1 := [(p, smW s1)]) (by walk_at "ev") shB) (ed_repr (O1 := [(p, smW s1)]) (ea_cons (ed_lstA (ea_cons (O1 := [(p, smW s1)]) ed_cbl (ea_cons (O1 := [(p, smW s1)]) (x := .dat (.bool (decide (f = 1)))) (Ed.is (w := .dat (.bool (PyData.eqv (.int f) (.int 1)))) (by walk_at "ev") (by rw [eqv_int])) (ea_cons (O1 := [(p, smW s1)]) ed_cbl (ea_cons (O1 := [(p, smW s1)]) ed_cbl ea_nil)))) (.cons (.cons (.cons (.cons .nil)))) (of_decide_eq_true rfl)) ea_nil) shB)) (by simp) rfl⟩
theorem d__law_lowest_right (T : Top K mg) : Def P w K mg base 4 "_law_lowest_right" 2 [] (spR K R_low) := T.t__law_lowest_right.use (ok__law_lowest_right T) (fun _ _ _ _ _ _ us hl => match us, hl with | [_, _], _ => rfl)

inductive R_intr : List W → OH → W → OH → Prop
  | mk {p : Addr} {s : Sm} {n : Int} (h : 0 ≤ n) (c0 : 0 ≤ s.c) (c1 : s.c < 999000) : R_intr [.own p, .dat (.int n)] [(p, smW s)] (.dat (.bool true)) [(p, smW (drawN (drawN s 4) 4))]
theorem ok__law_integer_right (T : Top K mg) : ∀ f fd, FunS K "_law_integer_right" s__law_integer_right [] [] f fd → FnG P w K mg base CX0 3 f fd ["_law_stream_here", "_law_number"] (spR K R_intr) := fun f fd F => def_ok F sc__law_integer_right (fun ws O u O' h => by cases h <;> rfl) fun X C => ⟨_, (pss_cons (q_par C.toCtx 4 5 (pa_cons (q_add C.toCtx (pe_op op_sub (q_var C.toCtx 1) pe_int) (q_call C.toCtx (d__law_draw T) (pa_cons (q_var C.toCtx 0) (pa_cons pe_int pa_nil)))) (pa_cons (q_add C.toCtx (pe_op op_sub (q_var C.toCtx 1) pe_int) (q_call C.toCtx (d__law_draw T) (pa_cons (q_var C.toCtx 0) (pa_cons pe_int pa_nil)))) pa_nil)))
    (pss_cons (q_set C 2 (pe_lst (pa_cons (q_call C.toCtx (d_is_integer T) (pa_cons (q_var C.toCtx 1) pa_nil)) (pa_cons (q_callN C.toCtx (d_is_integer_1_least T) (pa_cons (q_var C.toCtx 1) pa_nil) (pk_cons (q_var C.toCtx 4) pk_nil)) (pa_cons (q_callN0 C.toCtx (d_is_integer_0_value_most_least T) (pk_cons (q_var C.toCtx 1) (pk_cons (q_var C.toCtx 5) (pk_cons (q_var C.toCtx 4) pk_nil)))) pa_nil)))))
    (pss_cons (q_set C 3 (pe_lst (pa_cons (pe_cmpR op_ge (q_var C.toCtx 1) pe_int (nomark _)) (pa_cons (pe_cmpR op_ge (q_var C.toCtx 1) (q_var C.toCtx 4) (nomark _)) (pa_cons (pe_chain op_le op_le (q_var C.toCtx 4) (q_var C.toCtx 1) (q_var C.toCtx 5)) pa_nil)))))
    (pss_one (ps_ret (q_eq C.toCtx (q_repr C.toCtx T.b_repr (pa_cons (q_add C.toCtx (q_var C.toCtx 2) (pe_lst (pa_cons (q_callN C.toCtx (d_is_integer_1_most T) (pa_cons (pe_op op_sub pe_int (q_var C.toCtx 1)) pa_nil) (pk_cons (q_var C.toCtx 5) pk_nil)) pa_nil))) pa_nil)) (q_repr C.toCtx T.b_repr (pa_cons (q_add C.toCtx (q_var C.toCtx 3) (pe_lst (pa_cons (pe_and (q_eq C.toCtx (q_var C.toCtx 1) pe_int) (pe_one (pe_cmpR op_ge (q_var C.toCtx 5) pe_int (nomark _)))) pa_nil))) pa_nil)))))))), fun ws O u O' h => by
  obtain @⟨p, s, n, h, c0, c1⟩ := h
  have e1 := drawN_c s 4
  refine rn_let2 (x := .dat (.int (n - 2 + drawV s 4))) (y := .dat (.int (n - 2 + drawV (drawN s 4) 4))) (O1 := [(p, smW (drawN (drawN s 4) 4))]) (ea_cons (O1 := [(p, smW (drawN s 4))]) (ed_addA (O1 := [(p, smW s)]) (by walk_at "ev") (ed_callS0 (O1 := [(p, smW s)]) (by walk_at "ev") (.mk (by decide) (by decide) (by omega) (by omega))) .int) (ea_cons (O1 := [(p, smW (drawN (drawN s 4) 4))]) (ed_addA (O1 := [(p, smW (drawN s 4))]) (by walk_at "ev") (ed_callS0 (O1 := [(p, smW (drawN s 4))]) (by walk_at "ev") (.mk (by decide) (by decide) (by omega) (by omega))) .int) ea_nil)) ?_
  generalize drawN (drawN s 4) 4 = s1
  generalize n - 2 + drawV s 4 = l
  generalize n - 2 + drawV (drawN s 4) 4 = u
  have i0 : R_is_integer [.int n, .int 0, .none] (.bool (decide (0 ≤ n))) := by
    have := R_is_integer.none (v := .int n) (l := 0)
    rwa [show isInt (.int n) 0 .none = decide (0 ≤ n) by unfold isInt; simp] at this
  have i1 : R_is_integer [.int n, .int l, .none] (.bool (decide (l ≤ n))) := by
    have := R_is_integer.none (v := .int n) (l := l)
    rwa [show isInt (.int n) l .none = decide (l ≤ n) by unfold isInt; simp] at this
  have i2 : R_is_integer [.int n, .int l, .int u] (.bool (decide (l ≤ n) && decide (n ≤ u))) := R_is_integer.some
  have i3 : R_is_integer [.int (0 - n), .int 0, .int u] (.bool (decide (n = 0) && decide (0 ≤ u))) := by
    have := R_is_integer.some (v := .int (0 - n)) (l := 0) (u := u)
    rwa [show isInt (.int (0 - n)) 0 (.int u) = (decide (n = 0) && decide (0 ≤ u)) by
      show (decide (0 ≤ 0 - n) && decide (0 - n ≤ u)) = _
      by_cases hn : n = 0
      · subst hn; simp
      · rw [decide_eq_false hn, decide_eq_false (show ¬ 0 ≤ 0 - n by omega)]; rfl] at this
  refine rn_let (w := .dat (.list [.bool (decide (0 ≤ n)), .bool (decide (l ≤ n)), .bool (decide (l ≤ n) && decide (n ≤ u))])) (O1 := [(p, smW s1)]) (ed_lstA (ea_cons (O1 := [(p, smW s1)]) (e_is_integer (O1 := [(p, smW s1)]) (ds := [.int n]) (by walk_at "ev") (.cons .nil) i0) (ea_cons (O1 := [(p, smW s1)]) (e_is_integer_1_least (a0 := .int n) (k0 := .int l) (O1 := [(p, smW s1)]) (by walk_at "ev") (by walk_at "ev") i1) (ea_cons (O1 := [(p, smW s1)]) (e_is_integer_0_value_most_least (k0 := .int n) (k1 := .int u) (k2 := .int l) (by walk_at "ev") i2) ea_nil))) (.cons (.cons (.cons .nil))) (of_decide_eq_true rfl)) ?_
  refine rn_let (w := .dat (.list [.bool (decide (0 ≤ n)), .bool (decide (l ≤ n)), .bool (decide (l ≤ n) && decide (n ≤ u))])) (O1 := [(p, smW s1)]) (ed_lstA (ea_cons (O1 := [(p, smW s1)]) (by walk_at "ev") (ea_cons (O1 := [(p, smW s1)]) (by walk_at "ev") (ea_cons (O1 := [(p, smW s1)]) (ed_chainI (O1 := [(p, smW s1)]) (f := fun i j => decide (i ≤ j)) (f' := fun i j => decide (i ≤ j)) (i := l) (j := n) (k := u) (by walk_at "ev") (by walk_at "ev") fun _ => by walk_at "ev") ea_nil))) (.cons (.cons (.cons .nil))) (of_decide_eq_true rfl)) ?_
  refine rn_is (w := .dat (.bool (PyData.shown (.list ([.bool (decide (0 ≤ n)), .bool (decide (l ≤ n)), .bool (decide (l ≤ n) && decide (n ≤ u))] ++ [.bool (decide (n = 0) && decide (0 ≤ u))])) == PyData.shown (.list ([.bool (decide (0 ≤ n)), .bool (decide (l ≤ n)), .bool (decide (l ≤ n) && decide (n ≤ u))] ++ [.bool (decide (n = 0) && decide (0 ≤ u))]))))) (O1 := [(p, smW s1)]) (D := toRet (.dat (.bool true)) [(p, smW s1)]) (ed_eqS (ed_repr (O1 := [(p, smW s1)]) (ea_cons (O1 := [(p, smW s1)]) (ed_addA (O1 := [(p, smW s1)]) (ed_var rfl) (ed_lstA (ea_cons (O1 := [(p, smW s1)]) (e_is_integer_1_most (a0 := .int (0 - n)) (k0 := .int u) (O1 := [(p, smW s1)]) (by walk_at "ev") (by walk_at "ev") i3) ea_nil) (.cons .nil) (of_decide_eq_true rfl)) (.lst (of_decide_eq_true rfl))) ea_nil) shB) (ed_repr (O1 := [(p, smW s1)]) (ea_cons (O1 := [(p, smW s1)]) (ed_addA (O1 := [(p, smW s1)]) (ed_var rfl) (ed_lstA (ea_cons (O1 := [(p, smW s1)]) (ed_andP (a := decide (n = 0)) (b := decide (0 ≤ u)) (Ed.is (w := .dat (.bool (PyData.eqv (.int n) (.int 0)))) (by walk_at "ev") (by rw [eqv_int])) fun _ => by walk_at "ev") ea_nil) (.cons .nil) (of_decide_eq_true rfl)) (.lst (of_decide_eq_true rfl))) ea_nil) shB)) (by simp) rfl⟩
theorem d__law_integer_right (T : Top K mg) : Def P w K mg base 3 "_law_integer_right" 2 [] (spR K R_intr) := T.t__law_integer_right.use (ok__law_integer_right T) (fun _ _ _ _ _ _ us hl => match us, hl with | [_, _], _ => rfl)

theorem ok_law (T : Top K mg) : ∀ f fd, FunS K "law" s_law [] [] f fd → FnG P w K mg base CX0 6 f fd ["_law_script"] (spR K lawR) := fun f fd F => def_ok F sc_law (fun ws O u O' h => by cases h <;> rfl) fun X C => ⟨_, (pss_cons (q_for C.toCtx (q_enum C.toCtx T.b_enumerate (pa_cons (q_slice C.toCtx (q_add C.toCtx (q_var C.toCtx 0) (pe_lst (pa_cons pe_int pa_nil))) po_none (po_some pe_int)) pa_nil)) (q_seq C.toCtx (pgs_cons (q_name C 1) (pgs_cons (q_name C 2) pgs_nil))) (pss_cons (q_set C 3 (q_call C.toCtx (d__law_stream T) (pa_cons (q_var C.toCtx 2) (pa_cons (q_var C.toCtx 1) pa_nil))))
    (pss_cons (q_par C.toCtx 5 6 (pa_cons (q_call C.toCtx (d__law_fraction T) (pa_cons (q_var C.toCtx 3) pa_nil)) (pa_cons (q_call C.toCtx (d__law_fraction T) (pa_cons (q_var C.toCtx 3) pa_nil)) pa_nil)))
    (pss_cons (q_set C 4 (q_tuple C.toCtx T.b_tuple (pa_cons (q_lc C.toCtx [("_law_turn", 7)] (q_rng1 C.toCtx T.b_range (pa_cons (q_add C.toCtx pe_int (q_call C.toCtx (d__law_draw T) (pa_cons (q_var C.toCtx 3) (pa_cons pe_int pa_nil)))) pa_nil)) (fun X' C' => (q_nameC C' 7)) (fun X' C' => pts_nil) (fun X' C' => (q_call C' (d__law_fraction T) (pa_cons (q_var C' 3) pa_nil)))) pa_nil)))
    (pss_cons (ps_if (PW.pt (pw_or (pt_not (pt_val (q_call C.toCtx (d__law_pair_right T) (pa_cons (q_var C.toCtx 5) (pa_cons (q_var C.toCtx 6) pa_nil))))) (pw_or1 (pt_not (pt_val (q_call C.toCtx (d__law_parallel_right T) (pa_cons (q_var C.toCtx 4) pa_nil))))))) (pss_one (ps_ret pe_bl)) pss_nil)
    (pss_one (ps_if (PW.pt (pw_or (pt_not (pt_val (q_call C.toCtx (d__law_lowest_right T) (pa_cons (q_var C.toCtx 3) (pa_cons (q_var C.toCtx 5) pa_nil))))) (pw_or1 (pt_not (pt_val (q_call C.toCtx (d__law_integer_right T) (pa_cons (q_var C.toCtx 3) (pa_cons (q_mul C.toCtx (q_ix C.toCtx (q_var C.toCtx 5) pe_int) (q_call C.toCtx (d__law_draw T) (pa_cons (q_var C.toCtx 3) (pa_cons pe_int pa_nil)))) pa_nil)))))))) (pss_one (ps_ret pe_bl)) pss_nil)))))))
    (pss_one (ps_ret pe_bl))), fun ws O u O' h => by
  obtain @⟨ns, hns⟩ := h
  refine rn_seq (rn_for (ws := dats (enumD (((ns.map PyData.int) ++ [PyData.int 0]).take 9))) (C := anyO) (O1 := []) (ei_enum (ea_cons (ed_sliceA (ed_addA (ed_var rfl) (by walk_at "ev") (.lst ?_)) eo_none (eo_some ed_cint) .lst) ea_nil) ?_)
    (fun n Γ O => ∃ a1 a2 a3 a4 a5 a6 a7, Γ = [some (.dat (.list (ns.map PyData.int))), a1, a2, a3, a4, a5, a6, a7]) ⟨none, none, none, none, none, none, none, rfl⟩ (fun _ _ _ _ _ => trivial) ?_ ?_)
  · rw [List.length_map]
    exact Nat.le_trans (Nat.add_le_add_right hns 1) (of_decide_eq_true rfl)
  · rw [show cutD (ns.map PyData.int ++ [PyData.int 0]) none (some 9) = (ns.map PyData.int ++ [PyData.int 0]).take 9 from cut_to _ 9]
    exact .lst _
  · rintro n w Γ O hw ⟨a1, a2, a3, a4, a5, a6, a7, rfl⟩
    obtain ⟨v, hn, rfl⟩ := item_at hw
    refine ⟨_, tg_seqT (tgs_cons tg_name (tgs_cons tg_name tgs_nil)) rfl, rn_forget ?_⟩
    refine rn_seq (rn_asgN (mo := smW (sm0 v n)) (O1 := []) (en_call0 (ea_cons (ed_var rfl) (ea_cons (ed_var rfl) ea_nil)) (.mk (by omega) (by omega))) fun p => ?_)
    have c0 : (sm0 v n).c = 0 := rfl
    generalize sm0 v n = s at c0 ⊢
    have f1 := fracN_c s
    have f2 := fracN_c (fracN s)
    refine rn_let2 (x := .dat (fr (fracV s))) (y := .dat (fr (fracV (fracN s)))) (O1 := [(p, smW (fracN (fracN s)))]) (ea_cons (O1 := [(p, smW (fracN s))]) (ed_callS0 (O1 := [(p, smW s)]) (ea_cons (ed_var rfl) ea_nil) (.mk (by omega) (by omega))) (ea_cons (O1 := [(p, smW (fracN (fracN s)))]) (ed_callS0 (O1 := [(p, smW (fracN s))]) (ea_cons (ed_var rfl) ea_nil) (.mk (by omega) (by omega))) ea_nil)) ?_
    have hp := fracV_pos s
    have hq := fracV_pos (fracN s)
    have sp := fracV_sz s
    have sq := fracV_sz (fracN s)
    generalize fracV s = p' at hp sp ⊢
    generalize fracV (fracN s) = q' at hq sq ⊢
    generalize fracN (fracN s) = s3 at f2 ⊢
    have d0 := draw_lo (s := s3) (t := 6) (by decide)
    have d1 := draw_hi (s := s3) (t := 6) (by decide)
    have c3 := drawN_c s3 6
    generalize hm : (1 + drawV s3 6).toNat = m
    have em : 1 + drawV s3 6 = (m : Int) := by omega
    have lm : (rangeW 0 (1 + drawV s3 6).toNat).length = m := by rw [hm]; unfold rangeW; simp
    have hdr : ∀ {Γ : Gm}, Γ[3]? = some (some (.own p)) → Ed K Γ [(p, smW s3)] (tOp (rAddA K) (tC (V.int 1)) (tCall (spR K R_draw) [] E0 (tCons (tVar 3) (tCons (tC (V.int 6)) tNil)))) (.dat (.int (1 + drawV s3 6))) [(p, smW (drawN s3 6))] := fun h => ed_addA (O1 := [(p, smW s3)]) ed_cint (ed_callS0 (O1 := [(p, smW s3)]) (ea_cons (ed_var h) (ea_cons ed_cint ea_nil)) (.mk (by decide) (by decide) (by omega) (by omega))) .int
    have hfr := en_fracs (K := K) (p := p) (s := drawN s3 6) (i := 3) (j := 7) (E := E0) (Γ := [some (.dat (.list (ns.map PyData.int))), some (.dat (.int (n : Int))), some (.dat (.int v)), some (.own p), a4, some (.dat (fr p')), some (.dat (fr q')), a7]) (ei_rng1 (ea_cons (hdr rfl) ea_nil) (by omega) (by omega)) (by rw [lm]; omega) (fun w => rfl) (by omega) (by rw [lm]; omega)
    rw [lm] at hfr
    refine rn_let (w := .dat (.tuple ((frs m (drawN s3 6)).map fr))) (O1 := [(p, smW (itN m (drawN s3 6)))]) (ed_tupleA (ea_cons hfr.ed ea_nil) (.lst _)) ?_
    show Rn K [some (.dat (.list (ns.map PyData.int))), some (.dat (.int (n : Int))), some (.dat (.int v)), some (.own p), some (.dat (.tuple ((frs m (drawN s3 6)).map fr))), some (.dat (fr p')), some (.dat (fr q')), a7] _ _ _
    have cm := itN_c (drawN s3 6) m
    have lf := frs_length m (drawN s3 6)
    have fp := frs_pos (n := m) (s := drawN s3 6)
    have fs := frs_sz (n := m) (s := drawN s3 6)
    generalize frs m (drawN s3 6) = qs at lf fp fs ⊢
    generalize itN m (drawN s3 6) = s4 at cm ⊢
    refine rn_guard (b := false) (O1 := [(p, smW s4)]) (et_or (a := !true) (O1 := [(p, smW s4)]) (et_not (et_B (ed_callA (ea_cons (ed_var rfl) (ea_cons (ed_var rfl) ea_nil)) (.cons (.cons .nil)) (R_pair.mk hp hq sp sq)))) (fun _ => et_not (b := true) (et_B (ed_callA (ea_cons (ed_var rfl) ea_nil) (.cons .nil) (R_par.mk (fun e => by rw [e] at lf; simp at lf; omega) (by omega) fp fs)))) (fun z => by cases z)) rfl ?_
    have g0 := draw_lo (s := drawN s4 50) (t := 2) (by decide)
    have g1 := draw_hi (s := drawN s4 50) (t := 2) (by decide)
    have c4 := drawN_c s4 50
    have c5 := drawN_c (drawN s4 50) 2
    refine rn_guardL (b := false) (O1 := [(p, smW (drawN (drawN (drawN (drawN s4 50) 2) 4) 4))]) (et_or (a := !true) (O1 := [(p, smW (drawN s4 50))]) (et_not (et_B (ed_callS0 (O1 := [(p, smW s4)]) (ea_cons (ed_var rfl) (ea_cons (ed_var rfl) ea_nil)) (R_low.mk hp sp (by omega) (by omega))))) (fun _ => et_not (b := true) (et_B (ed_callS0 (O1 := [(p, smW (drawN (drawN s4 50) 2))]) (ea_cons (O1 := [(p, smW (drawN s4 50))]) (ed_var rfl) (ea_cons (O1 := [(p, smW (drawN (drawN s4 50) 2))]) (x := .dat (.int (p'.num * drawV (drawN s4 50) 2))) (ed_mulA (O1 := [(p, smW (drawN s4 50))]) (x := .dat (.int p'.num)) (y := .dat (.int (drawV (drawN s4 50) 2))) (by walk_at "ev") (ed_callS0 (O1 := [(p, smW (drawN s4 50))]) (ea_cons (ed_var rfl) (ea_cons ed_cint ea_nil)) (.mk (by decide) (by decide) (by omega) (by omega))) (.int (wide_mul sp.1 (show (drawV (drawN s4 50) 2).natAbs < 2 ^ 2 by omega) (by decide) (by decide) (by decide)))) ea_nil)) (R_intr.mk (Int.mul_nonneg (Int.le_of_lt (num_pos hp)) g0) (by omega) (by omega))))) (fun z => by cases z)) rfl ⟨_, _, _, _, _, _, _, rfl⟩
  · rintro Γ O ⟨a1, a2, a3, a4, a5, a6, a7, rfl⟩
    exact rn_forget (rn_ret ed_cbl ⟨rfl, rfl⟩)⟩
theorem d_law (T : Top K mg) : Def P w K mg base 6 "law" 1 [] (spR K lawR) := T.t_law.use (ok_law T) (fun _ _ _ _ _ _ us hl => match us, hl with | [_], _ => rfl)


end
end TB
open PySem PySem.W PyProof.Rows
set_option maxRecDepth 100000 in
set_option maxHeartbeats 0 in
theorem PySem.Challenge.cw_turnboard_k01_fraction_arithmetic_holds : PySem.Challenge.rw_turnboard_k01_fraction_arithmetic.Holds := by
  w_on; o_law; k_head; (case hw => w_witness2)
  k_fill
  refine TB.law_end (l := PySem.Challenge.rw_turnboard_k01_fraction_arithmetic) (st := TB.s_law) (x := "_law_script") (k := 6) rfl rfl rfl ⟨rfl, by decide, by decide⟩ (fun w h Y => PySem.W.kIn_of Y) (fun _ _ _ _ _ _ us hl => match us, hl with | [_], _ => rfl) ?F
  case F =>
    intro w mg h KX G
    have T : TB.Top _ mg := {
      t_is_integer := TB.TopF.mk1 KX G (by k_is) (by k_is) (by k_is) (by k_is) (Or.inr ⟨_, rfl, (TB.kwd_cons (by k_is) ⟨_, rfl⟩ (TB.kwd_cons (by k_is) rfl TB.kwd_nil))⟩)
      t_greatest_common_divisor := TB.TopF.mk1 KX G (by k_is) (by k_is) (by k_is) (by k_is) (Or.inl rfl)
      t_is_fraction := TB.TopF.mk1 KX G (by k_is) (by k_is) (by k_is) (by k_is) (Or.inl rfl)
      t_reduced := TB.TopF.mk1 KX G (by k_is) (by k_is) (by k_is) (by k_is) (Or.inl rfl)
      t_make_fraction := TB.TopF.mk1 KX G (by k_is) (by k_is) (by k_is) (by k_is) (Or.inl rfl)
      t_check_two := TB.TopF.mk1 KX G (by k_is) (by k_is) (by k_is) (by k_is) (Or.inl rfl)
      t_reciprocal := TB.TopF.mk1 KX G (by k_is) (by k_is) (by k_is) (by k_is) (Or.inl rfl)
      t_sum_of_two := TB.TopF.mk1 KX G (by k_is) (by k_is) (by k_is) (by k_is) (Or.inl rfl)
      t_product_of_two := TB.TopF.mk1 KX G (by k_is) (by k_is) (by k_is) (by k_is) (Or.inl rfl)
      t_add := TB.TopF.mk1 KX G (by k_is) (by k_is) (by k_is) (by k_is) (Or.inl rfl)
      t_multiply := TB.TopF.mk1 KX G (by k_is) (by k_is) (by k_is) (by k_is) (Or.inl rfl)
      t_divide := TB.TopF.mk1 KX G (by k_is) (by k_is) (by k_is) (by k_is) (Or.inl rfl)
      t_parallel_sum := TB.TopF.mk1 KX G (by k_is) (by k_is) (by k_is) (by k_is) (Or.inl rfl)
      t__law_mixed := TB.TopF.mk1 KX G (by k_is) (by k_is) (by k_is) (by k_is) (Or.inl rfl)
      t__law_stream := TB.TopF.mk1 KX G (by k_is) (by k_is) (by k_is) (by k_is) (Or.inl rfl)
      t__law_draw := TB.TopF.mk1 KX G (by k_is) (by k_is) (by k_is) (by k_is) (Or.inl rfl)
      t__law_lowest := TB.TopF.mk1 KX G (by k_is) (by k_is) (by k_is) (by k_is) (Or.inl rfl)
      t__law_fraction := TB.TopF.mk1 KX G (by k_is) (by k_is) (by k_is) (by k_is) (Or.inl rfl)
      t__law_pair_right := TB.TopF.mk1 KX G (by k_is) (by k_is) (by k_is) (by k_is) (Or.inl rfl)
      t__law_parallel_right := TB.TopF.mk1 KX G (by k_is) (by k_is) (by k_is) (by k_is) (Or.inl rfl)
      t__law_lowest_right := TB.TopF.mk1 KX G (by k_is) (by k_is) (by k_is) (by k_is) (Or.inl rfl)
      t__law_integer_right := TB.TopF.mk1 KX G (by k_is) (by k_is) (by k_is) (by k_is) (Or.inl rfl)
      t_law := TB.TopF.mk1 KX G (by k_is) (by k_is) (by k_is) (by k_is) (Or.inl rfl)
      b_all := PySem.W.mg_none_of KX G (by k_is)
      b_bool := PySem.W.mg_none_of KX G (by k_is)
      b_enumerate := PySem.W.mg_none_of KX G (by k_is)
      b_int := PySem.W.mg_none_of KX G (by k_is)
      b_isinstance := PySem.W.mg_none_of KX G (by k_is)
      b_len := PySem.W.mg_none_of KX G (by k_is)
      b_list := PySem.W.mg_none_of KX G (by k_is)
      b_range := PySem.W.mg_none_of KX G (by k_is)
      b_repr := PySem.W.mg_none_of KX G (by k_is)
      b_tuple := PySem.W.mg_none_of KX G (by k_is) }
    exact ⟨T.t_law, fun base f fd F => TB.ok_law T f fd F⟩
