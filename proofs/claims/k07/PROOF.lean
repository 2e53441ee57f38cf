import PyProof.Rows.All
import Wide.All
import OpenK.AllK
import Wide.FinOn
import HandS.ForMost
import HandS.Defaults
import HandS.IsInst
import HandS.Wide
import HandS.TupAny
import HandS.TupMul
import HandS.Walk
import HandS.Zip
import HandS.EndBits
import HandS.Dict
import HandS.Text
import HandS.Iter
import HandS.Style
import KE.GoesEnum
import KE.GoesMore
import HandS.NoneIn
import HandS.DictComp
import KE.DataEq
import HandS.WideBits
import PyProof.SumAny
import KE.SortData
import KE.DataMinMax
import KE.KDictPairs
import HandS.Flow
import HandS.FStr
import HandS.More
import PyProof.Rows.StrMeet
import KE.GoesEnumKw
import HandS.SortKw
import HandS.SetFor
import HandS.Strs
import HandS.ListItems
import KE.KDictList
import PySem.Challenge.RW_turnboard_k07_whole_edge_sum_invariant
-- TB0
section
set_option Elab.async false
set_option linter.all false
set_option maxRecDepth 100000
set_option maxHeartbeats 2000000
/-! TB0: the data level over the hand layer. A value is data (PyData, standing in a part of the heap that never changes) or an object that the code at hand owns and may change. -/
namespace TB
open PySem L2
inductive W where
  | dat (d : PyData)
  | own (p : Addr)
  /-- a tuple as a walker gives it -/
  | pr (ds : List PyData)
inductive MO where
  | lst (ws : List W)
  | dct (kws : List (Key × W))
abbrev OH := List (Addr × MO)
abbrev Gm := List (Option W)
def kD : Key → PyData
  | .inl i => .int i
  | .inr x => .str x
/-- the tuple at a, its object known to have no dict -/
def SqF (K : PySem.W.Frag) (H : Hp) (a : Addr) (xs : List V) : Prop :=
  (∃ o, H a = some (.frz o (.tup xs)) ∧ Obj.dict o = none) ∨ ∃ (o : Obj) (its : Array Value) (n : Nat), K.lookup a = some o ∧ o.cls = .type "tuple" ∧ o.data = .seq its n ∧ its.size ≤ sizeLine ∧ Vals xs its.toList ∧ o.dict = none
theorem SqF.t {K : PySem.W.Frag} {H : Hp} {a : Addr} {xs : List V} (h : SqF K H a xs) : SqT K H a xs := by
  rcases h with ⟨o, h, _⟩ | ⟨o, its, n, h1, h2, h3, h4, h5, _⟩
  · exact Or.inl (Or.inr ⟨o, h⟩)
  · exact Or.inr ⟨o, its, n, h1, h2, h3, h4, h5⟩
theorem SqF.of {K : PySem.W.Frag} {H : Hp} {a : Addr} {xs : List V} {o : Obj} (h : H a = some (.frz o (.tup xs))) (d : Obj.dict o = none) : SqF K H a xs := Or.inl ⟨o, h, d⟩
mutual
inductive Rp (K : PySem.W.Frag) (H : Hp) : V → PyData → Prop
  | non : Rp K H .non .none
  | bl (b : Bool) : Rp K H (.bl b) (.bool b)
  | int (i : Int) : Rp K H (.int i) (.int i)
  | str (x : Str) : Rp K H (.str x) (.str x)
  | lst {a : Addr} {xs : List V} {ds : List PyData} (h : SqL K H a xs) (r : RpAll K H xs ds) : Rp K H (.ref a) (.list ds)
  | tup {a : Addr} {xs : List V} {ds : List PyData} (h : SqF K H a xs) (r : RpAll K H xs ds) : Rp K H (.ref a) (.tuple ds)
  | dct {a : Addr} {kvs : List (Key × V)} {ds : List (PyData × PyData)} (h : Rd H a (.dK kvs)) (r : RpKV K H kvs ds) : Rp K H (.ref a) (.dict ds)
inductive RpAll (K : PySem.W.Frag) (H : Hp) : List V → List PyData → Prop
  | nil : RpAll K H [] []
  | cons {v : V} {vs : List V} {d : PyData} {ds : List PyData} (h : Rp K H v d) (r : RpAll K H vs ds) : RpAll K H (v :: vs) (d :: ds)
inductive RpKV (K : PySem.W.Frag) (H : Hp) : List (Key × V) → List (PyData × PyData) → Prop
  | nil : RpKV K H [] []
  | cons {k : Key} {v : V} {kvs : List (Key × V)} {d : PyData} {ds : List (PyData × PyData)} (h : Rp K H v d) (r : RpKV K H kvs ds) : RpKV K H ((k, v) :: kvs) ((kD k, d) :: ds)
end
section
variable {K : PySem.W.Frag} {H H' : Hp}
theorem same_rd {a : Addr} {u : HO} (s : Same H H') (h : Rd H a u) : Rd H' a u := by
  rcases h with h | ⟨o, h⟩
  · exact Or.inl (s a _ h)
  · exact Or.inr ⟨o, s a _ h⟩
theorem same_l {a : Addr} {xs : List V} (s : Same H H') (h : SqL K H a xs) : SqL K H' a xs := by
  rcases h with h | h
  · exact Or.inl (same_rd s h)
  · exact Or.inr h
theorem same_t {a : Addr} {xs : List V} (s : Same H H') (h : SqT K H a xs) : SqT K H' a xs := by
  rcases h with h | h
  · exact Or.inl (same_rd s h)
  · exact Or.inr h
theorem same_f {a : Addr} {xs : List V} (s : Same H H') (h : SqF K H a xs) : SqF K H' a xs := by
  rcases h with ⟨o, h, d⟩ | h
  · exact Or.inl ⟨o, s a _ h, d⟩
  · exact Or.inr h
mutual
theorem Rp.mono (s : Same H H') : ∀ {d : PyData} {v : V}, Rp K H v d → Rp K H' v d
  | .none, _, h => by cases h; exact .non
  | .bool b, _, h => by cases h; exact .bl b
  | .int i, _, h => by cases h; exact .int i
  | .str x, _, h => by cases h; exact .str x
  | .list ds, _, h => by
    cases h with
    | lst h r => exact .lst (same_l s h) (RpAll.mono s r)
  | .tuple ds, _, h => by
    cases h with
    | tup h r => exact .tup (same_f s h) (RpAll.mono s r)
  | .dict ds, _, h => by
    cases h with
    | dct h r => exact .dct (same_rd s h) (RpKV.mono s r)
theorem RpAll.mono (s : Same H H') : ∀ {ds : List PyData} {vs : List V}, RpAll K H vs ds → RpAll K H' vs ds
  | [], _, h => by cases h; exact .nil
  | d :: ds, _, h => by
    cases h with
    | cons h r => exact .cons (Rp.mono s h) (RpAll.mono s r)
theorem RpKV.mono (s : Same H H') : ∀ {ds : List (PyData × PyData)} {kvs : List (Key × V)}, RpKV K H kvs ds → RpKV K H' kvs ds
  | [], _, h => by cases h; exact .nil
  | (k, d) :: ds, _, h => by
    cases h with
    | cons h r => exact .cons (Rp.mono s h) (RpKV.mono s r)
end
theorem RpAll.length {vs : List V} {ds : List PyData} (h : RpAll K H vs ds) : vs.length = ds.length := by
  induction ds generalizing vs with
  | nil => cases h; rfl
  | cons d ds ih => cases h with | cons h r => simp [ih r]
theorem RpAll.get {vs : List V} {ds : List PyData} {i : Nat} {d : PyData} (h : RpAll K H vs ds) (e : ds[i]? = some d) : ∃ v, vs[i]? = some v ∧ Rp K H v d := by
  induction ds generalizing vs i with
  | nil => simp at e
  | cons d0 ds ih =>
    cases h with
    | cons h r =>
      cases i with
      | zero => simp at e; subst e; exact ⟨_, rfl, h⟩
      | succ i => simpa using ih r (by simpa using e)
theorem RpAll.append {vs us : List V} {ds es : List PyData} (h : RpAll K H vs ds) (h' : RpAll K H us es) : RpAll K H (vs ++ us) (ds ++ es) := by
  induction ds generalizing vs with
  | nil => cases h; exact h'
  | cons d ds ih => cases h with | cons h r => exact .cons h (ih r)
theorem RpAll.take {vs : List V} {ds : List PyData} (n : Nat) (h : RpAll K H vs ds) : RpAll K H (vs.take n) (ds.take n) := by
  induction ds generalizing vs n with
  | nil => cases h; simp; exact .nil
  | cons d ds ih =>
    cases h with
    | cons h r =>
      cases n with
      | zero => exact .nil
      | succ n => exact .cons h (ih n r)
theorem RpAll.drop {vs : List V} {ds : List PyData} (n : Nat) (h : RpAll K H vs ds) : RpAll K H (vs.drop n) (ds.drop n) := by
  induction ds generalizing vs n with
  | nil => cases h; simp; exact .nil
  | cons d ds ih =>
    cases h with
    | cons h r =>
      cases n with
      | zero => exact .cons h r
      | succ n => exact ih n r
theorem RpAll.reverse {vs : List V} {ds : List PyData} (h : RpAll K H vs ds) : RpAll K H vs.reverse ds.reverse := by
  induction ds generalizing vs with
  | nil => cases h; exact .nil
  | cons d ds ih => cases h with | cons h r => simpa using (ih r).append (.cons h .nil)
theorem RpAll.rep {vs : List V} {ds : List PyData} (h : RpAll K H vs ds) : ∀ n : Nat, RpAll K H (List.replicate n vs).flatten (List.replicate n ds).flatten
  | 0 => .nil
  | n + 1 => by simpa [List.replicate_succ] using h.append (h.rep n)
/-! ### the state -/
def RepW (K : PySem.W.Frag) (Z : Hp) : W → V → Prop
  | .dat d, v => Rp K Z v d
  | .own p, v => v = .ref p
  | .pr ds, v => ∃ a xs, v = .ref a ∧ SqT K Z a xs ∧ RpAll K Z xs ds
def RepMO (K : PySem.W.Frag) (Z : Hp) : MO → HO → Prop
  | .lst ws, .lst vs => Paired (RepW K Z) ws vs
  | .dct kws, .dK kvs => Paired (fun (p : Key × W) (q : Key × V) => p.1 = q.1 ∧ RepW K Z p.2 q.2) kws kvs
  | _, _ => False
theorem RepW.mono {Z Z' : Hp} {w : W} {v : V} (s : Same Z Z') (h : RepW K Z w v) : RepW K Z' w v := by
  cases w with
  | dat d => exact Rp.mono s h
  | own p => exact h
  | pr ds => obtain ⟨a, xs, e, h, r⟩ := h; exact ⟨a, xs, e, same_t s h, RpAll.mono s r⟩
theorem RepWs.mono {Z Z' : Hp} {ws : List W} {vs : List V} (s : Same Z Z') (h : Paired (RepW K Z) ws vs) : Paired (RepW K Z') ws vs := Paired.mapP h fun _ _ r => RepW.mono s r
theorem RepMO.mono {Z Z' : Hp} {mo : MO} {ho : HO} (s : Same Z Z') (h : RepMO K Z mo ho) : RepMO K Z' mo ho := by
  cases mo with
  | lst ws =>
    cases ho with
    | lst vs => exact RepWs.mono s h
    | _ => exact h.elim
  | dct kws =>
    cases ho with
    | dK kvs => exact Paired.mapP (show Paired _ _ _ from h) fun _ _ r => ⟨r.1, RepW.mono s r.2⟩
    | _ => exact h.elim
/-- F: what must stay; G: which of F's addresses the data may lean on; Z: where the data stand; O: what is owned -/
structure HFit (K : PySem.W.Frag) (F : Hp) (G : Addr → Prop) (Z : Hp) (O : OH) (H : Hp) : Prop where
  ex : Same Z H
  fr : Same F H
  ow : ∀ p mo, (p, mo) ∈ O → Z p = none ∧ F p = none ∧ ∃ ho, H p = some ho ∧ RepMO K Z mo ho
  nd : (O.map (·.1)).Nodup
  zc : ∀ a o, Z a = some o → F a = none ∨ G a
def SFit (K : PySem.W.Frag) (Z : Hp) (Γ : Gm) (σ : L2.St) : Prop :=
  Paired (fun (w : Option W) (v : Option V) => ∀ x, w = some x → ∃ y, v = some y ∧ RepW K Z x y) Γ σ
theorem SFit.mono {Z Z' : Hp} {Γ : Gm} {σ : L2.St} (s : Same Z Z') (h : SFit K Z Γ σ) : SFit K Z' Γ σ :=
  Paired.mapP h fun _ _ r x e => let ⟨y, e1, r1⟩ := r x e; ⟨y, e1, RepW.mono s r1⟩
theorem paired_get {α β : Type} {R : α → β → Prop} : ∀ {l : List α} {m : List β} {i : Nat} {a : α}, Paired R l m → l[i]? = some a → ∃ b, m[i]? = some b ∧ R a b
  | _, _, _, _, .nil, e => by simp at e
  | _, _, 0, _, .cons r _, e => by simp at e; subst e; exact ⟨_, rfl, r⟩
  | _, _, i + 1, a, .cons _ t, e => by
    obtain ⟨b, h1, h2⟩ := paired_get (i := i) (a := a) t (by simpa using e)
    exact ⟨b, by simpa using h1, h2⟩
theorem paired_set {α β : Type} {R : α → β → Prop} {a : α} {b : β} (r : R a b) : ∀ {l : List α} {m : List β} (i : Nat), Paired R l m → Paired R (l.set i a) (m.set i b)
  | _, _, _, .nil => .nil
  | _, _, 0, .cons _ t => .cons r t
  | _, _, i + 1, .cons q t => .cons q (paired_set r i t)
theorem paired_append {α β : Type} {R : α → β → Prop} : ∀ {l l' : List α} {m m' : List β}, Paired R l m → Paired R l' m' → Paired R (l ++ l') (m ++ m')
  | _, _, _, _, .nil, s => s
  | _, _, _, _, .cons r t, s => .cons r (paired_append t s)
theorem SFit.get {Z : Hp} {Γ : Gm} {σ : L2.St} {i : Nat} {w : W} (h : SFit K Z Γ σ) (e : Γ[i]? = some (some w)) : ∃ v, σ[i]? = some (some v) ∧ RepW K Z w v := by
  obtain ⟨b, h1, h2⟩ := paired_get h e
  obtain ⟨y, rfl, r⟩ := h2 w rfl
  exact ⟨y, h1, r⟩
theorem SFit.set {Z : Hp} {Γ : Gm} {σ : L2.St} {w : W} {v : V} (i : Nat) (h : SFit K Z Γ σ) (r : RepW K Z w v) : SFit K Z (Γ.set i (some w)) (σ.set i (some v)) :=
  paired_set (fun x e => by cases e; exact ⟨v, rfl, r⟩) i h
theorem SFit.wipe {Z : Hp} {Γ : Gm} {σ : L2.St} (i : Nat) (h : SFit K Z Γ σ) (x : Option V) : SFit K Z (Γ.set i none) (σ.set i x) :=
  paired_set (fun x e => by cases e) i h
/-- an object that is new -/
theorem HFit.new {F : Hp} {G : Addr → Prop} {Z : Hp} {O : OH} {p : Addr} {u : HO} (h : HFit K F G Z O H) (n : H p = none) : HFit K F G (upd Z p u) O (upd H p u) := by
  have nz : Z p = none := h.ex.free n
  have nf : F p = none := h.fr.free n
  refine ⟨fun b o e => ?_, fun b o e => ?_, fun q mo hq => ?_, h.nd, fun a o e => ?_⟩
  · by_cases hb : b = p
    · subst hb; rw [upd_same] at e ⊢; exact e
    · rw [upd_ne hb] at e ⊢; exact h.ex b o e
  · rw [upd_ne (fun z => by rw [z, nf] at e; cases e)]; exact h.fr b o e
  · obtain ⟨a, b, ho, c, d⟩ := h.ow q mo hq
    have hne : q ≠ p := ne_of_none c n
    exact ⟨by rw [upd_ne hne]; exact a, b, ho, by rw [upd_ne hne]; exact c, RepMO.mono (fun x o e => by rw [upd_ne (ne_of_none e nz)]; exact e) d⟩
  · by_cases hb : a = p
    · subst hb; exact Or.inl nf
    · rw [upd_ne hb] at e; exact h.zc a o e
/-- an owned object is changed -/
theorem HFit.write {F : Hp} {G : Addr → Prop} {Z : Hp} {O : OH} {k : Nat} {p : Addr} {u : HO} {mo mo' : MO} (h : HFit K F G Z O H) (e : O[k]? = some (p, mo)) (r : RepMO K Z mo' u) : HFit K F G Z (O.set k (p, mo')) (upd H p u) := by
  have hm := List.mem_of_getElem? e
  obtain ⟨nz, nf, ho, hp, _⟩ := h.ow p mo hm
  have hk : k < O.length := (List.getElem?_eq_some_iff.mp e).1
  have emap : (O.set k (p, mo')).map (·.1) = O.map (·.1) := by
    rw [List.map_set]
    have : (O.map (·.1))[k]? = some p := by rw [List.getElem?_map, e]; rfl
    apply List.ext_getElem?
    intro i
    rw [List.getElem?_set]
    split
    · rename_i hki; subst hki
      simp [hk]
      have := (List.getElem?_eq_some_iff.mp e).2
      rw [this]
    · rfl
  refine ⟨fun b o e => ?_, fun b o e => ?_, fun q m hq => ?_, by rw [emap]; exact h.nd, h.zc⟩
  · rw [upd_ne (ne_of_none e nz)]; exact h.ex b o e
  · rw [upd_ne (ne_of_none e nf)]; exact h.fr b o e
  · obtain ⟨i, hi⟩ := List.mem_iff_getElem?.mp hq
    rw [List.getElem?_set] at hi
    by_cases hki : k = i
    · rw [if_pos hki, if_pos hk] at hi
      cases hi
      exact ⟨nz, nf, u, upd_same, r⟩
    · rw [if_neg hki] at hi
      obtain ⟨a, b, hq2, c, d⟩ := h.ow q m (List.mem_of_getElem? hi)
      have hne : q ≠ p := fun z => by
        have e1 : (O.map (·.1))[i]? = some q := by rw [List.getElem?_map, hi]; rfl
        have e2 : (O.map (·.1))[k]? = some p := by rw [List.getElem?_map, e]; rfl
        rw [z] at e1
        obtain ⟨l1, g1⟩ := List.getElem?_eq_some_iff.mp e1
        obtain ⟨l2, g2⟩ := List.getElem?_eq_some_iff.mp e2
        exact hki ((List.getElem_inj h.nd).mp (g2.trans g1.symm))
      exact ⟨a, b, hq2, by rw [upd_ne hne]; exact c, d⟩
end
/-- a new tuple, its object known -/
def NewT (H : Hp) (ys : List V) (Q : VK) : Prop := ∀ p o, H p = none → Obj.dict o = none → Q (.ref p) (upd H p (.frz o (.tup ys)))
/-- a tuple display -/
def tTupF (t : TA) : TE := fun σ H Q => t σ H fun xs H1 => xs.length ≤ sizeLine ∧ NewT H1 xs Q
def rTupF (K : PySem.W.Frag) : List V → Hp → VK → Prop := fun xs H Q => ∃ p ys, xs = [.ref p] ∧ ((SqL K H p ys ∧ NewT H ys Q) ∨ (SqT K H p ys ∧ Q (.ref p) H))
def rCatF (K : PySem.W.Frag) : R2 := fun x y H Q => ∃ a b xs ys, x = .ref a ∧ y = .ref b ∧ SqT K H a xs ∧ SqT K H b ys ∧ xs.length + ys.length ≤ sizeLine ∧ (xs = [] → Q (.ref b) H) ∧ (xs ≠ [] → ys = [] → Q (.ref a) H) ∧ (xs ≠ [] → ys ≠ [] → NewT H (xs ++ ys) Q)
def rSlF (K : PySem.W.Frag) : V → Option Int → Option Int → Hp → VK → Prop := fun x lo hi H Q => ∃ a xs, x = .ref a ∧ SqT K H a xs ∧ (HT.sIx xs.length 0 lo = 0 ∧ HT.sIx xs.length xs.length hi = xs.length → Q (.ref a) H) ∧ (¬ (HT.sIx xs.length 0 lo = 0 ∧ HT.sIx xs.length xs.length hi = xs.length) → NewT H (cutV xs lo hi) Q)
def rRepF (K : PySem.W.Frag) : R2 := fun x y H Q => ∃ l k xs, x = .ref l ∧ y = .int k ∧ SqT K H l xs ∧ xs ≠ [] ∧ 2 ≤ k ∧ k ≤ 1000 ∧ xs.length ≤ 1000 ∧ NewT H (List.replicate k.toNat xs).flatten Q
end TB
end
-- TB1
section
set_option Elab.async false
set_option linter.all false
set_option maxRecDepth 100000
set_option maxHeartbeats 2000000
/-! TB1: what expressions are worth at the data level. -/
namespace TB
open PySem L2
section
variable {K : PySem.W.Frag} {F : Hp} {G : Addr → Prop} {Z H : Hp} {O : OH}
/-- what is owned besides may be set aside: it is then what must stay -/
def frameF (O : OH) (F H : Hp) : Hp := fun a => if a ∈ O.map (·.1) then H a else F a
theorem HFit.aside {A : OH} (h : HFit K F G Z (A ++ O) H) : HFit K (frameF A F H) (fun a => G a ∧ a ∉ A.map (·.1)) Z O H := by
  have nd := h.nd
  rw [List.map_append] at nd
  have inA : ∀ a, a ∈ A.map (·.1) → Z a = none := fun a ha => by
    obtain ⟨⟨q, m⟩, h1, h2⟩ := List.mem_map.mp ha
    have h2 : q = a := h2
    rw [← h2]
    exact (h.ow q m (List.mem_append_left _ h1)).1
  refine ⟨h.ex, fun a o e => ?_, fun p mo hp => ?_, (List.nodup_append.mp nd).2.1, fun a o e => ?_⟩
  · unfold frameF at e
    split at e
    · exact e
    · exact h.fr a o e
  · obtain ⟨a, b, c⟩ := h.ow p mo (List.mem_append_right _ hp)
    refine ⟨a, ?_, c⟩
    unfold frameF
    rw [if_neg]
    · exact b
    · intro hm
      exact (List.nodup_append.mp nd).2.2 p hm p (List.mem_map.mpr ⟨_, hp, rfl⟩) rfl
  · by_cases ha : a ∈ A.map (·.1)
    · rw [inA a ha] at e; cases e
    · unfold frameF
      rw [if_neg ha]
      rcases h.zc a o e with z | z
      · exact Or.inl z
      · exact Or.inr ⟨z, ha⟩
theorem HFit.back {A O' : OH} {Z' H' : Hp} (h : HFit K F G Z (A ++ O) H) (s : Same Z Z') (h' : HFit K (frameF A F H) (fun a => G a ∧ a ∉ A.map (·.1)) Z' O' H') : HFit K F G Z' (A ++ O') H' := by
  have nd := h.nd
  rw [List.map_append] at nd
  have stay : ∀ p mo, (p, mo) ∈ A → Z' p = none ∧ F p = none ∧ ∃ ho, H' p = some ho ∧ RepMO K Z' mo ho := fun p mo hp => by
    obtain ⟨a, b, ho, c, d⟩ := h.ow p mo (List.mem_append_left _ hp)
    have hm : p ∈ A.map (·.1) := List.mem_map.mpr ⟨_, hp, rfl⟩
    have e1 : frameF A F H p = some ho := by unfold frameF; rw [if_pos hm]; exact c
    refine ⟨?_, b, ho, h'.fr p ho e1, RepMO.mono s d⟩
    cases q : Z' p with
    | none => rfl
    | some o =>
      rcases h'.zc p o q with z | z
      · rw [e1] at z; cases z
      · exact absurd hm z.2
  refine ⟨h'.ex, fun a o e => ?_, fun p mo hp => ?_, ?_, fun a o e => ?_⟩
  · by_cases ha : a ∈ A.map (·.1)
    · obtain ⟨⟨q, m⟩, h1, h2⟩ := List.mem_map.mp ha
      have h2 : q = a := h2
      subst h2
      rw [(h.ow q m (List.mem_append_left _ h1)).2.1] at e; cases e
    · exact h'.fr a o (by unfold frameF; rw [if_neg ha]; exact e)
  · rcases List.mem_append.mp hp with hp | hp
    · exact stay p mo hp
    · obtain ⟨a, b, c⟩ := h'.ow p mo hp
      refine ⟨a, ?_, c⟩
      unfold frameF at b
      split at b
      · rename_i hm
        obtain ⟨⟨q, m⟩, h1, h2⟩ := List.mem_map.mp hm
        have h2 : q = p := h2
        subst h2
        exact (h.ow q m (List.mem_append_left _ h1)).2.1
      · exact b
  · rw [List.map_append]
    refine List.nodup_append.mpr ⟨(List.nodup_append.mp nd).1, h'.nd, fun a ha b hb e => ?_⟩
    subst e
    obtain ⟨⟨q, m⟩, h1, h2⟩ := List.mem_map.mp hb
    have h2 : q = a := h2
    subst h2
    have b := (h'.ow q m h1).2.1
    unfold frameF at b
    rw [if_pos ha] at b
    obtain ⟨⟨q', m'⟩, h3, h4⟩ := List.mem_map.mp ha
    have h4 : q' = q := h4
    subst h4
    obtain ⟨_, _, ho, c, _⟩ := h.ow q' m' (List.mem_append_left _ h3)
    rw [c] at b; cases b
  · rcases h'.zc a o e with z | z
    · unfold frameF at z
      split at z
      · rename_i hm
        obtain ⟨⟨q, m⟩, h1, h2⟩ := List.mem_map.mp hm
        have h2 : q = a := h2
        subst h2
        obtain ⟨_, _, ho, c, _⟩ := h.ow q m (List.mem_append_left _ h1)
        rw [c] at z; cases z
      · exact Or.inl z
    · exact Or.inr z.1
theorem HFit.perm {O' : OH} (h : HFit K F G Z O H) (p : O.Perm O') : HFit K F G Z O' H :=
  ⟨h.ex, h.fr, fun q m hq => h.ow q m (p.mem_iff.mpr hq), (List.Perm.nodup_iff (p.map _)).mp h.nd, h.zc⟩
theorem HFit.at {k : Nat} {p : Addr} {mo : MO} (h : HFit K F G Z O H) (e : O[k]? = some (p, mo)) : ∃ ho, H p = some ho ∧ RepMO K Z mo ho := (h.ow p mo (List.mem_of_getElem? e)).2.2
end
/-! ### expressions -/
/-- t gives w, what is owned goes from O to O' -/
def Ed (K : PySem.W.Frag) (Γ : Gm) (O : OH) (t : TE) (w : W) (O' : OH) : Prop :=
  ∀ (F : Hp) (G : Addr → Prop) (Z : Hp) (σ : L2.St) (H : Hp), HFit K F G Z O H → SFit K Z Γ σ → ∀ Q : VK,
    (∀ v Z' H', Same Z Z' → HFit K F G Z' O' H' → RepW K Z' w v → Q v H') → t σ H Q
/-- t gives a new object -/
def En (K : PySem.W.Frag) (Γ : Gm) (O : OH) (t : TE) (mo : MO) (O' : OH) : Prop :=
  ∀ (F : Hp) (G : Addr → Prop) (Z : Hp) (σ : L2.St) (H : Hp), HFit K F G Z O H → SFit K Z Γ σ → ∀ Q : VK,
    (∀ p Z' H', Same Z Z' → HFit K F G Z' ((p, mo) :: O') H' → Q (.ref p) H') → t σ H Q
def Et (K : PySem.W.Frag) (Γ : Gm) (O : OH) (t : TT) (b : Bool) (O' : OH) : Prop :=
  ∀ (F : Hp) (G : Addr → Prop) (Z : Hp) (σ : L2.St) (H : Hp), HFit K F G Z O H → SFit K Z Γ σ → ∀ Q : Bool → Hp → Prop,
    (∀ Z' H', Same Z Z' → HFit K F G Z' O' H' → Q b H') → t σ H Q
section
variable {K : PySem.W.Frag} {Γ : Gm} {O O1 O2 O3 : OH} {ta tb te : TE} {w : W} {i j : Int} {d e : PyData}
/-- with more that is owned, set aside -/
theorem Ed.frame {A : OH} (h : Ed K Γ O te w O1) : Ed K Γ (A ++ O) te w (A ++ O1) := fun F G Z σ H hf hs Q q =>
  h _ _ Z σ H hf.aside hs Q fun v Z' H' s h' r => q v Z' H' s (hf.back s h') r
theorem Et.frame {A : OH} {tt : TT} {b : Bool} (h : Et K Γ O tt b O1) : Et K Γ (A ++ O) tt b (A ++ O1) := fun F G Z σ H hf hs Q q =>
  h _ _ Z σ H hf.aside hs Q fun Z' H' s h' => q Z' H' s (hf.back s h')
/-! data that == compares -/
mutual
def plain : PyData → Bool
  | .dict _ => false
  | .list ds => plainAll ds
  | .tuple ds => plainAll ds
  | _ => true
def plainAll : List PyData → Bool
  | [] => true
  | d :: ds => plain d && plainAll ds
end
mutual
theorem Rp.dp {H : Hp} : ∀ {d : PyData} {v : V}, Rp K H v d → plain d = true → Dp K H v d
  | .none, _, h, _ => by cases h; exact .non
  | .bool b, _, h, _ => by cases h; exact .bl b
  | .int i, _, h, _ => by cases h; exact .int i
  | .str x, _, h, _ => by cases h; exact .str x
  | .list ds, _, h, p => by
    cases h with
    | lst h r => exact .lst h (RpAll.dp r (by unfold plain at p; exact p))
  | .tuple ds, _, h, p => by
    cases h with
    | tup h r => exact .tup h.t (RpAll.dp r (by unfold plain at p; exact p))
  | .dict ds, _, h, p => by unfold plain at p; cases p
theorem RpAll.dp {H : Hp} : ∀ {ds : List PyData} {vs : List V}, RpAll K H vs ds → plainAll ds = true → DpAll K H vs ds
  | [], _, h, _ => by cases h; exact .nil
  | d :: ds, _, h, p => by
    unfold plainAll at p
    rw [Bool.and_eq_true] at p
    cases h with
    | cons h r => exact .cons (Rp.dp h p.1) (RpAll.dp r p.2)
end
/-! items -/
/-! tests -/
variable {t u : TT} {a b : Bool}
/-! arguments, displays -/
variable {tr : TA} {ws : List W} {ds : List PyData}
/-! calls -/
/-- the promise of a def: R args owned value owned' -/
def spR (K : PySem.W.Frag) (R : List W → OH → W → OH → Prop) : Sp := fun vs H Q _ => ∃ (F : Hp) (G : Addr → Prop) (Z : Hp) (O : OH) (ws : List W) (w : W) (O' : OH),
  HFit K F G Z O H ∧ Paired (RepW K Z) ws vs ∧ R ws O w O' ∧ ∀ v Z' H', Same Z Z' → HFit K F G Z' O' H' → RepW K Z' w v → Q v H'
end
end TB
end
-- TB2
section
set_option Elab.async false
set_option linter.all false
set_option maxRecDepth 100000
set_option maxHeartbeats 2000000
/-! TB2: statements, loops, comprehensions, defs at the data level. -/
namespace TB
open PySem L2
/-- what is wanted behind a statement -/
structure Dn where
  nx : Gm → OH → Prop
  rt : W → OH → Prop
  bk : Gm → OH → Prop := fun _ _ => False
  ct : Gm → OH → Prop := fun _ _ => False
structure EndsOk (K : PySem.W.Frag) (F : Hp) (G : Addr → Prop) (Z : Hp) (D : Dn) (E : Ends) : Prop where
  nx : ∀ Γ O Z' σ H, D.nx Γ O → Same Z Z' → HFit K F G Z' O H → SFit K Z' Γ σ → E.nx σ H
  rt : ∀ w O v Z' H, D.rt w O → Same Z Z' → HFit K F G Z' O H → RepW K Z' w v → E.rt v H
  bk : ∀ Γ O Z' σ H, D.bk Γ O → Same Z Z' → HFit K F G Z' O H → SFit K Z' Γ σ → E.bk σ H
  ct : ∀ Γ O Z' σ H, D.ct Γ O → Same Z Z' → HFit K F G Z' O H → SFit K Z' Γ σ → E.ct σ H
theorem EndsOk.mono {K : PySem.W.Frag} {F : Hp} {G : Addr → Prop} {Z Z' : Hp} {D : Dn} {E : Ends} (h : EndsOk K F G Z D E) (s : Same Z Z') : EndsOk K F G Z' D E :=
  ⟨fun Γ O Z2 σ H a b => h.nx Γ O Z2 σ H a (s.trans b), fun w O v Z2 H a b => h.rt w O v Z2 H a (s.trans b), fun Γ O Z2 σ H a b => h.bk Γ O Z2 σ H a (s.trans b), fun Γ O Z2 σ H a b => h.ct Γ O Z2 σ H a (s.trans b)⟩
def Rn (K : PySem.W.Frag) (Γ : Gm) (O : OH) (t : TS) (D : Dn) : Prop :=
  ∀ (F : Hp) (G : Addr → Prop) (Z : Hp) (σ : L2.St) (H : Hp), HFit K F G Z O H → SFit K Z Γ σ → ∀ E : Ends, EndsOk K F G Z D E → t E σ H
section
variable {K : PySem.W.Frag} {Γ Γ' : Gm} {O O1 O2 O3 : OH} {ta tb te : TE} {t u : TS} {D : Dn} {w : W} {i j : Nat} {d e : PyData}
/-! targets -/
/-- w goes to the target: the slots go from Γ to Γ' -/
def Tg (K : PySem.W.Frag) (g : TG) (w : W) (Γ Γ' : Gm) : Prop :=
  ∀ (Z : Hp) (σ : L2.St) (H : Hp) (v : V), Same Z H → SFit K Z Γ σ → RepW K Z w v → ∀ Q : L2.St → Hp → Prop, (∀ σ', SFit K Z Γ' σ' → Q σ' H) → g v σ H Q
def Tgs (K : PySem.W.Frag) (g : TGs) (ds : List PyData) (Γ Γ' : Gm) : Prop :=
  ∀ (Z : Hp) (σ : L2.St) (H : Hp) (vs : List V), Same Z H → SFit K Z Γ σ → RpAll K Z vs ds → ∀ Q : L2.St → Hp → Prop, (∀ σ', SFit K Z Γ' σ' → Q σ' H) → g vs σ H Q
/-! what is walked -/
/-- J gives the items, whatever else goes on, as long as what stands in Z stands and C holds of what is owned -/
structure WalkD (K : PySem.W.Frag) (Z : Hp) (C : OH → Prop) (J : It) (ws : List W) : Prop where
  go : ∀ (F : Hp) (G : Addr → Prop) (Z1 : Hp) (O1 : OH) (H1 : Hp) (n : Nat), n < ws.length → Same Z Z1 → HFit K F G Z1 O1 H1 → C O1 → J.go n H1
  yld : ∀ (F : Hp) (G : Addr → Prop) (Z1 : Hp) (O1 : OH) (H1 : Hp) (n : Nat) (w : W) (x : V) (H2 : Hp), ws[n]? = some w → Same Z Z1 → HFit K F G Z1 O1 H1 → C O1 → J.yld n H1 x H2 →
    ∃ Z2, Same Z1 Z2 ∧ HFit K F G Z2 O1 H2 ∧ RepW K Z2 w x
  stop : ∀ (F : Hp) (G : Addr → Prop) (Z1 : Hp) (O1 : OH) (H1 : Hp), Same Z Z1 → HFit K F G Z1 O1 H1 → C O1 → J.stop ws.length H1
def Ei (K : PySem.W.Frag) (Γ : Gm) (O : OH) (wi : TI) (ws : List W) (C : OH → Prop) (O' : OH) : Prop :=
  ∀ (F : Hp) (G : Addr → Prop) (Z : Hp) (σ : L2.St) (H : Hp), HFit K F G Z O H → SFit K Z Γ σ → ∀ R : It → Hp → Prop,
    (∀ J Z' H', Same Z Z' → HFit K F G Z' O' H' → WalkD K Z' C J ws → R J H') → wi σ H R
/-! the walks -/
def anyO : OH → Prop := fun _ => True
/-! comprehensions -/
def wipeG (Γ : Gm) : List Nat → Gm
  | [] => Γ
  | i :: is => (wipeG Γ is).set i none
theorem SFit.wipes {Z : Hp} {Γ : Gm} {σ : L2.St} (h : SFit K Z Γ σ) : ∀ vs : List Nat, SFit K Z (wipeG Γ vs) (L2.wipe σ vs)
  | [] => h
  | i :: is => SFit.wipe i (h.wipes is) none
theorem wipe_set {x : Option V} : ∀ {vs : List Nat} {σ : L2.St} {j : Nat}, j ∈ vs → L2.wipe (σ.set j x) vs = L2.wipe σ vs
  | v :: vs, σ, j, h => by
    unfold L2.wipe
    by_cases hv : j ∈ vs
    · rw [wipe_set hv]
    · rcases List.mem_cons.mp h with e | h
      · subst e
        have : ∀ (vs : List Nat), j ∉ vs → L2.wipe (σ.set j x) vs = (L2.wipe σ vs).set j x := fun vs hv => by
          induction vs with
          | nil => rfl
          | cons u us ih =>
            unfold L2.wipe
            rw [ih (fun z => hv (List.mem_cons_of_mem _ z))]
            exact List.set_comm _ _ (fun z => hv (by rw [z]; exact List.mem_cons_self))
        rw [this vs hv, List.set_set]
      · exact absurd h hv
theorem wipe_wipe {vs : List Nat} {σ : L2.St} : L2.wipe (L2.wipe σ vs) vs = L2.wipe σ vs := by
  have : ∀ (us : List Nat), (∀ u ∈ us, u ∈ vs) → L2.wipe (L2.wipe σ us) vs = L2.wipe σ vs := fun us h => by
    induction us with
    | nil => rfl
    | cons u us ih =>
      show L2.wipe ((L2.wipe σ us).set u none) vs = L2.wipe σ vs
      exact (wipe_set (h u List.mem_cons_self)).trans (ih fun v hv => h v (List.mem_cons_of_mem _ hv))
  exact this vs fun _ h => h
end
end TB
end
-- TBG
section
set_option Elab.async false
set_option linter.all false
set_option maxRecDepth 100000
set_option maxHeartbeats 2000000
/-! TBG: what a def promises where no repr is under way around it (A.guards = some []). -/
namespace TB
open PySem L2
open PySem.Spec PyProof.Rows
structure FnG (P : Program) (w : World) (K : PySem.W.Frag) (mg : Str → Option Value) (base : Heap) (CX : CXT) (k : Nat) (f : Addr) (fd : FuncData) (ps : List Str) (sp : Sp) : Prop where
  len : ∀ vs H Q E, sp vs H Q E → vs.length = ps.length
  go : ∀ (A : Around) (outer : List Env) (s : Shared) (H : Hp) (args : Args) (us : List Value) (vs : List V) (Q : VK) (E : XK), Room k A → A.guards = some [] → Env0 P w K mg base A outer s H → BindsTo s fd args (ps.zip us) → Vals vs us → sp vs H Q E → codeAny (model P w) A (.call (.ref f) args) (CR CX outer P w H s Q E) s
section
variable {P : Program} {w : World} {K : PySem.W.Frag} {mg : Str → Option Value} {base : Heap} {CX : CXT} {k : Nat} {f : Addr} {fd : FuncData} {ps : List Str} {sp : Sp}
theorem FnG.mono {j : Nat} (F : FnG P w K mg base CX j f fd ps sp) (h : j ≤ k) : FnG P w K mg base CX k f fd ps sp := ⟨F.len, fun A outer s H args us vs Q E hr => F.go A outer s H args us vs Q E (hr.mono h)⟩
end
section
variable {X : Cx} {CX : CXT} {k n : Nat} {f : Addr} {fd : FuncData} {ps ks : List Str} {sp : Sp} {dvs : List V} {ds : List Value} {E : XK} {x : Str} {p pos : Pos} {e : Expr} {es : List Expr} {kws : List Keyword} {t tk : TA} {g : List Value → List Value → List Value} {gV : List V → List V → List V}
/-- behind the callee's end -/
theorem endG {pins : List (Addr × Obj)} {σ : L2.St} {H : Hp} {s s' : Shared} {Q : VK} (hx : Passes CX X E) (I : Inv X pins σ H s) {r : Result} (hq : CR CX X.stack X.prog X.w H s Q E r s') : callEnd (EP X pins σ Q) X.xe r s' :=
  match r, hq with
  | .error z, hq => hx pins σ H s z s' I hq
  | .ok (.ret _), hq => I.after hq
  | .ok .next, hq => hq.elim
  | .ok .brk, hq => hq.elim
  | .ok .cont, hq => hq.elim
theorem goG {pins : List (Addr × Obj)} {σ : L2.St} {H : Hp} {s : Shared} {Q : VK} {us all : List Value} {kw : List (Str × Value)} {vs : List V} (F : FnG X.prog X.w X.K X.mg X.base CX k f fd ps sp) (hr : Room k X.A) (hG : X.A.guards = some []) (hx : Passes CX X E) (I : Inv X pins σ H s)
    (hb : BindsTo s fd ⟨us, kw⟩ (ps.zip all)) (r : Vals vs all) (h : sp vs H Q E) : wpAny (model X.prog X.w) X.A (call (.ref f) us kw) (EP X pins σ Q) X.xe s :=
  wpAny_call (codeAny_mono (F.go X.A X.stack s H ⟨us, kw⟩ all vs Q E hr hG I.env0 hb r h) fun _ _ hq => endG hx I hq)
theorem pe_callG (F : FnG X.prog X.w X.K X.mg X.base CX k f fd ps sp) (hr : Room k X.A) (hG : X.A.guards = some []) (hg : Gl X x) (hm : X.mg x = some (.ref f)) (hk : PySem.W.keepIn X.K (.ref f) = true) (hb : Binds X.K fd ps ds) (hd : Vals dvs ds) (hx : Passes CX X E)
    (ha : PA X (e :: es) t) (hdb : (x == ("__debug__" : Str)) = false) (he : starEach (e :: es) X.env = (false, eval e X.env) :: starEach es X.env) (hpl : (backTo pos (starEach es X.env)).any (·.1) = false) : PE X (.Call (.Name x p) (e :: es) [] pos) (tCall sp dvs E t) := by
  constructor
  intro pins s σ H Q I h
  apply wpAny_Call_Name_kw
  refine ld_glob I hg hm (PySem.W.callWith_K (h₀ := X.base) I.ok.mod.kin hk (thn (ha.run pos pins s σ H _ I h) fun us s1 ⟨vs, H1, I1, r, q⟩ => ⟨I1.kIn, ?_⟩) he hpl) hdb
  have rr := r.append hd
  exact goG F hr hG hx I1 (hb s1 us I1.kIn (by rw [← rr.length]; exact F.len _ _ _ _ q)) rr q
theorem pe_callGN (F : FnG X.prog X.w X.K X.mg X.base CX k f fd ps sp) (hr : Room k X.A) (hG : X.A.guards = some []) (hg : Gl X x) (hm : X.mg x = some (.ref f)) (hk : PySem.W.keepIn X.K (.ref f) = true) (hb : KBn X.K fd ps n ks g gV) (hx : Passes CX X E)
    (ha : PA X (e :: es) t) (hkw : PK X kws tk) (hall : (backToKw pos (keywordEach kws X.env)).all (·.1.isSome) = true) (hks : (backToKw pos (keywordEach kws X.env)).filterMap (·.1) = ks) (hdb : (x == ("__debug__" : Str)) = false) (he : starEach (e :: es) X.env = (false, eval e X.env) :: starEach es X.env)
    (hpl : ((backTo pos (starEach (e :: es) X.env)).any (·.1) || (backToKw pos (keywordEach kws X.env)).any (·.1.isNone)) = false) : PE X (.Call (.Name x p) (e :: es) kws pos) (tCallN n ks.length sp gV E t tk) := by
  constructor
  intro pins s σ H Q I h
  apply wpAny_Call_Name_kw
  refine ld_glob I hg hm (PySem.W.callWith_KW (h₀ := X.base) I.ok.mod.kin hk hall (thn (ha.run pos pins s σ H _ I h) fun us s1 ⟨vs, H1, I1, r, q⟩ => thn (hkw.run pos pins s1 σ H1 _ I1 q) fun ws s2 ⟨zs, H2, I2, rz, l1, l2, q2⟩ => ⟨I2.kIn, ?_⟩) hpl he) hdb
  rw [hks]
  exact goG F hr hG hx I2 (hb.to s2 us ws I2.kIn (r.length.symm.trans l1) (rz.length.symm.trans l2)) (hb.rel r rz) q2
end
/-! ### a def by its body -/
section
variable {P : Program} {w : World} {K : PySem.W.Frag} {mg : Str → Option Value} {base : Heap} {x qual : Str} {params : Arguments} {body : List Stmt} {scope : Scope} {dvs : List V} {kws : List (Str × V)} {f : Addr} {fd : FuncData}
theorem FunD.okG {CX : CXT} {N ps : List Str} {k : Nat} {sp : Sp} (F : FunD K x qual params body scope dvs kws f fd) (S : FnScope N ps scope) (len : ∀ vs H Q E, sp vs H Q E → vs.length = ps.length)
    (hbody : ∀ (cdv : Value) (A : Around) (outer : List Env) (s : Shared) (H : Hp) (vs : List V) (Q : VK) (E : XK), A.guards = some [] → Room k (A.deeper (envOfC qual scope s.heap.objs.size f cdv)) → sp vs H Q E →
      ∃ t, PSs (cxOf CX P w K mg base N qual scope f cdv A outer s H E) body t ∧ t { nx := fun _ H' => Q .non H', rt := Q } (start N vs) H) : FnG P w K mg base CX (k + 1) f fd ps sp := by
  obtain ⟨oc, od, dV, kV, doc, pm, an, cdv, ct, osl, rfl, lk, hcd, _, _⟩ := F.ex
  refine ⟨len, fun A outer s H args us vs Q E hr hG e0 hb r hsp => ?_⟩
  have KX : K.In s.heap := e0.mod.kin.keeps fun b _ e => (e0.bs b _ e).1
  refine codeAny_call_function hr.depth (KX _ _ lk) rfl S.co S.gen rfl (PySem.W.codeRec_of KX hcd) (hb _ _ _ _ (wpAny_newFunctionEnv_cells S.kind (fun y hy => ?_) fun env he s1 z => ?_))
  · exact (S.par _ (List.of_mem_zip hy).1).imp id fun q => ⟨q, PySem.W.cellsFrom_some _ _ _ (.inl q)⟩
  · subst he
    obtain ⟨t, ht, hq⟩ := hbody cdv A outer s H vs Q E hG (hr.deeper _) hsp
    have lim : s.heap.NoLimit := e0.mod.nolimit.keeps fun b _ e => (e0.bs b _ e).1
    refine ⟨lim.keeps z.toInCall.keep, codeAny_func (wpAny_mono (ht.run [] s1 (start N vs) H _ (inv_start S hr.hd e0 (len _ _ _ _ hsp) r z) hq) (fun fl s' hs => ?_) fun _ _ hs => hs)⟩
    match fl, hs with
    | .ret u, ⟨v, σ', H', J, rv, q⟩ => exact ⟨v, H', J.os, J.bare, J.base, J.hok, rv, q⟩
    | .next, ⟨σ', H', J, q⟩ => exact ⟨V.non, H', J.os, J.bare, J.base, J.hok, rfl, q⟩
    | .brk, ⟨_, _, _, q⟩ => exact q.elim
    | .cont, ⟨_, _, _, q⟩ => exact q.elim
end
/-! ### the law itself -/
theorem law_callG {P : Program} {w : World} {K : PySem.W.Frag} {mg mb : Str → Option Value} {CX : CXT} {k : Nat} {fa a : Addr} {fd : FuncData} {x : Str} {sp : Sp} {s₁ : Shared} {vs : List Value} {ns : List Int} (KX : K.In s₁.heap) (hns : s₁.heap.Ns mainGlobals mg) (hb : s₁.heap.Ns builtinsNs mb)
    (hbb : ∀ x : Str, x ≠ "__name__" → mb x = bootBuiltins x) (hlim : s₁.heap.NoLimit) (hg : s₁.gens = #[]) (ha : s₁.heap.get? a = some { cls := .type "list", data := .seq vs.toArray }) (hi : IntsAre vs ns) (hl : ns.length ≤ sizeLine) (hr : Room k callerA) (F : ∀ base : Heap, FnG P w K mg base CX k fa fd [x] sp)
    (hbind : ∀ (s : Shared) (u : Value), BindsTo s fd ⟨[u], []⟩ [(x, u)]) (hsp : ∀ H : Hp, Only H → SqL K H a (ns.map V.int) → sp [.ref a] H (fun v _ => v = .bl true) fun _ _ _ => False) (hCX : ∀ H e s', CX [] H s₁ (fun _ _ _ => False) e s' → False) :
    codeAny (model P w) callerA (.call (.ref fa) ⟨[.ref a], []⟩) (fun r s' => r = .ok (.ret (.bool true)) ∧ OldK s₁.heap s'.heap ∧ s'.os = s₁.os ∧ AllBare s'.gens) s₁ := by
  have rv := vals_ints hi
  have lenV := hi.length
  have core : ∀ H : Hp, Only H → SqL K H a (ns.map V.int) → HOk P w H s₁.heap → (∀ b, H b ≠ none → b = a) → (H a ≠ none → K.lookup a = none) → codeAny (model P w) callerA (.call (.ref fa) ⟨[.ref a], []⟩) (fun r s' => r = .ok (.ret (.bool true)) ∧ OldK s₁.heap s'.heap ∧ s'.os = s₁.os ∧ AllBare s'.gens) s₁ := by
    intro H hO hS hok hA hK
    have tr : ∀ b, H b ≠ none → b = a ∧ K.lookup b = none := fun b hb => by
      have e := hA b hb
      subst e
      exact ⟨rfl, hK hb⟩
    have none_of : ∀ b, (H b ≠ none → False) → H b = none := fun b h => by
      cases q : H b with
      | none => rfl
      | some u => exact (h (by simp [q])).elim
    have nsK : ∀ {b : Addr} {m : Str → Option Value}, s₁.heap.Ns b m → (hidT s₁.heap H).Ns b m := fun {b m} ⟨o, es, ep, e, d, r⟩ => ⟨o, es, ep, hidT_get e (none_of b fun hb => by
      rw [(tr b hb).1, ha] at e
      cases e
      cases d), d, r⟩
    have hKb : K.In (hidT s₁.heap H) := fun b o e => hidT_get (KX b o e) (none_of b fun hb => by rw [(tr b hb).2] at e; cases e)
    have hM : Mod K mg (hidT s₁.heap H) := ⟨hKb, nsK hns, ⟨mb, nsK hb, hbb⟩, hlim.elim fun mc h => ⟨mc, nsK h.1, h.2⟩⟩
    have e0 : Env0 P w K mg (hidT s₁.heap H) callerA [] s₁ H := ⟨rfl, hM, fun _ _ e => of_hidT e, Nat.le_of_eq (hidT_size _ _), trivial, fun b hb => (by cases hb), hok, .of_eq hg⟩
    refine codeAny_mono ((F _).go callerA [] s₁ H ⟨[.ref a], []⟩ [.ref a] [.ref a] _ _ hr rfl e0 (hbind s₁ (.ref a)) (.cons rfl .nil) (hsp H hO hS)) fun r s' h => ?_
    match r, h with
    | .error e, h => exact (hCX H e s' h).elim
    | .ok .next, h => exact h.elim
    | .ok .brk, h => exact h.elim
    | .ok .cont, h => exact h.elim
    | .ok (.ret u), ⟨v, H', os, bare, un, hok', r', q⟩ =>
      cases (show v = .bl true from q)
      cases (show u = Value.bool true from r')
      refine ⟨rfl, OldK.of_keep fun b o e => ?_, os, bare⟩
      rcases hO b with z | ⟨ob, xs, z⟩
      · exact un.keep b o e z (by intro y; cases y) (by simp)
      · have e1 := (hok b _ z).1
        have e2 := (hok' b _ (un.frzs b ob _ z)).1
        rw [e] at e1
        cases e1
        exact e2
  by_cases hk : K.lookup a = none
  · refine core (fun b => if b = a then some (.frz { cls := .type "list", data := .seq vs.toArray } (.lst (ns.map V.int))) else none) (fun b => ?_) (.inl (.inr ⟨_, if_pos rfl⟩)) (fun b u z => ?_) (fun b z => ?_) fun _ => hk
    · by_cases hba : b = a
      · exact .inr ⟨_, _, if_pos hba⟩
      · exact .inl (if_neg hba)
    · by_cases hba : b = a
      · subst hba
        have z' := (if_pos rfl).symm.trans z
        cases z'
        exact ⟨ha, by simpa using hl, vs, _, rv, ha⟩
      · cases (if_neg hba).symm.trans z
    · exact Classical.byContradiction fun hba => z (if_neg hba)
  · obtain ⟨o, hk⟩ := Option.ne_none_iff_exists'.mp hk
    have e := KX a o hk
    rw [ha] at e
    cases e
    exact core (fun _ => none) (fun _ => .inl rfl) (.inr ⟨_, vs.toArray, _, hk, rfl, rfl, rfl, by simpa [lenV] using hl, by simpa using rv⟩) (fun b u z => by cases z) (fun b z => absurd rfl z) fun z => absurd rfl z
theorem walkG {l : PySem.W.OpenLaw} {n k : Nat} {q : Program} {loose : List Str} {XP : (Str → Option Value) → Heap → Prop} {YP : World → Heap → Prop} {d : DefRec} {K : Params → PySem.W.Frag} {CX : World → CXT} {sp : World → Sp} {x : Str} (hn : l.most = some n) (hn2 : n ≤ sizeLine) (hdf : d.params.defaults = []) (hr : Room k callerA)
    (hY : ∀ (w : World) (h : Heap), YP w h → (K w.params).In h) (F : ∀ (w : World) (mg : Str → Option Value) (fa : Addr) (h : Heap), (K w.params).In h → h.Ns mainGlobals mg → mg d.name = some (.ref fa) → ∃ fd : FuncData, (∀ (s : Shared) (u : Value), BindsTo s fd ⟨[u], []⟩ [(x, u)]) ∧ ∀ base : Heap, FnG l.prog w (K w.params) mg base (CX w) k fa fd [x] (sp w))
    (hsp : ∀ (w : World) (H : Hp) (a : Addr) (ns : List Int), ns.length ≤ n → (∀ z ∈ ns, Builtin.Int.intBits z ≤ 1048576) → Only H → SqL (K w.params) H a (ns.map V.int) → sp w [.ref a] H (fun v _ => v = .bl true) fun _ _ _ => False) (hCX : ∀ (w : World) (H : Hp) (s : Shared) (e : Value) (s' : Shared), CX w [] H s (fun _ _ _ => False) e s' → False) :
    PySem.W.WalkO q loose XP YP l.row.toRowW d [] (fun f vs => PySem.call f vs) := by
  refine Att.attach_callB hn hdf fun w s₀ s₁ mg mb fa o pm cd doc a vs ns G Y ho hd hcd hmg hobj hints hlen hbits hg => ?_
  obtain ⟨fd, hb, hF⟩ := F w mg fa _ (hY w _ Y) G.T.g hmg
  exact law_callG (hY w _ Y) G.T.g G.T.b G.T.builtins G.T.nolimit hg hobj hints (Nat.le_trans hlen hn2) hr hF hb (hsp w · a ns hlen hbits) fun H e s' => hCX w H s₁ e s'
/-! ### either reading -/
def tOrE (t u : TE) : TE := fun σ H Q => t σ H Q ∨ u σ H Q
def tOrS (t u : TS) : TS := fun E σ H => t E σ H ∨ u E σ H
section
variable {X : Cx}
theorem pe_or {e : Expr} {t u : TE} (h : PE X e t) (k : PE X e u) : PE X e (tOrE t u) := ⟨fun pins s σ H Q I z => z.elim (h.run pins s σ H Q I) (k.run pins s σ H Q I)⟩
theorem ps_or {st : Stmt} {t u : TS} (h : PS X st t) (k : PS X st u) : PS X st (tOrS t u) := ⟨fun pins s σ H E I z => z.elim (h.run pins s σ H E I) (k.run pins s σ H E I)⟩
theorem pc_or {op : CmpOp} {a b : Expr} {t u : TE} (h : PC X op a b t) (k : PC X op a b u) : PC X op a b (tOrE t u) := ⟨fun pins s σ H Q I z => z.elim (h.run pins s σ H Q I) (k.run pins s σ H Q I)⟩
theorem pc_op {op : CmpOp} {a b : Expr} {ta tb : TE} {r : R2} (ho : OpR X (compareOp op) r) (ha : PE X a ta) (hb : PE X b tb) : PC X op a b (tOp r ta tb) :=
  ⟨fun pins s σ H Q I h => thn (ha.run pins s σ H _ I h) fun v s1 ⟨x, H1, I1, r1, q1⟩ => thn (hb.run pins s1 σ H1 _ I1 q1) fun u s2 ⟨y, H2, I2, r2, q2⟩ => ho pins s2 σ H2 x y v u Q I2 r1 r2 q2⟩
end
/-- x[i] -/
def tIx (K : PySem.W.Frag) (ta tb : TE) : TE := tOrE (tOp (rIx K) ta tb) (tDGet ta tb)
/-- x in y, x not in y -/
def rInG (neg : Bool) : R2 := fun x y H Q => ∃ (c : Nat) (z : Str), x = .str ⟨#[c]⟩ ∧ y = .str z ∧ Q (.bl (if neg then !decide (c ∈ z.cps.toList) else decide (c ∈ z.cps.toList))) H
end TB
end
-- TBF
section
set_option Elab.async false
set_option linter.all false
set_option maxRecDepth 100000
set_option maxHeartbeats 2000000
/-! TBF: tuples whose object is known to have no dict. -/
namespace TB
open PySem L2
open PySem.Spec PyProof.Rows
section
variable {X : Cx} {pins : List (Addr × Obj)} {σ : L2.St} {H : Hp} {s : Shared}
theorem tupF {its : List Value} {ys : List V} {Q : VK} (I : Inv X pins σ H s) (r : Vals ys its) (hz : ys.length ≤ sizeLine) (q : NewT H ys Q) : EP X pins σ Q (.ref s.heap.objs.size) { s with heap := s.heap.push { cls := .type "tuple", data := .seq its.toArray } } :=
  ⟨.ref s.heap.objs.size, _, I.laid (t' := s.toks) (o := .frz { cls := .type "tuple", data := .seq its.toArray } (.tup ys)) (fun b ob e => Heap.get?_push_of_some _ e) (Nat.le_refl _) ⟨Heap.get?_push_size _ rfl, hz, its, r, IsTup.new _ _⟩, rfl, q _ _ (I.hok.fresh (Nat.le_refl _)) rfl⟩
end
section
variable {X : Cx}
theorem pe_tupF {es : List Expr} {t : TA} {pos : Pos} {x1} (h : PA X es t) : PE X (.Tuple es x1 pos) (tTupF t) :=
  ⟨fun pins s σ H Q I hq => wpAny_Tuple_spliced (thn (h.run pos pins s σ H _ I hq) fun us s1 ⟨xs, H1, I1, r, z, q⟩ => ⟨by rw [← r.length]; exact z, tupF I1 r z q⟩)⟩
theorem call_tupleF : CallR X (.type "tuple") (rTupF X.K) := by
  intro pins s σ H xs us Q I r h
  obtain ⟨p, ys, ex, h⟩ := h
  subst ex
  obtain ⟨u, eu, rx⟩ := vals1 r
  subst eu
  cases rx
  rcases h with ⟨hq, q⟩ | ⟨hq, q⟩
  · obtain ⟨its, rr, pl, hz⟩ := I.list hq
    exact call_tuple_list pl.isList (fun h' kp => tupF (s := { s with heap := h' }) (I.kept (t' := s.toks) kp) rr hz q) (by have := rr.length; rw [List.size_toArray]; omega)
  · obtain ⟨its, rr, pl, _⟩ := I.tuple hq
    exact call_tuple_same pl ⟨.ref p, H, I, rfl, q⟩
theorem op_catF : OpR X (binaryOp .Add) (rCatF X.K) := by
  intro pins s σ H x y v u Q I rx ry h
  obtain ⟨a, b, xs, ys, e1, e2, ha, hb, hz, q0, q1, q2⟩ := h
  subst e1 e2
  cases rx
  cases ry
  obtain ⟨its, r1, p1, _⟩ := I.tuple ha
  obtain ⟨jts, r2, p2, _⟩ := I.tuple hb
  by_cases hx : xs = []
  · subst hx
    cases r1
    exact cat_tup0 p1 p2 ⟨.ref b, H, I, rfl, q0 rfl⟩
  · exact HT.cat_tup p1 p2 (fun z => hx (r1.nil_iff.mp z)) (fun z => ⟨.ref a, H, I, rfl, q1 hx (r2.nil_iff.mp z)⟩) (fun z => tupF I (r1.append r2) (by rw [List.length_append]; exact hz) (q2 hx fun w => z (r2.nil_iff.mpr w))) (by rw [← r1.length, ← r2.length]; exact hz)
theorem sl_tupF : SlR X (rSlF X.K) := by
  intro pins s σ H x v vl vu lo hi sl Q I rx hs pl pu h
  obtain ⟨a, xs, ex, hx, q1, q2⟩ := h
  subst ex
  cases rx
  obtain ⟨its, r, ht, hz⟩ := I.tuple hx
  have hlen : its.toArray.size = xs.length := by rw [List.size_toArray]; exact r.length.symm
  refine ⟨"tuple", _, PyProof.Rows.slot_tuple_getitem.lookup, ht.typeIs, ?_⟩
  by_cases hw : HT.sIx xs.length 0 lo = 0 ∧ HT.sIx xs.length xs.length hi = xs.length
  · exact getItem_tuple_whole ht hs pl pu (by rw [hlen]; exact hw) ⟨.ref a, H, I, rfl, q1 hw⟩
  · refine HT.getItem_tuple_cut ht hs pl pu (by rw [hlen]; exact hw) ?_ (by rw [hlen]; exact hz)
    rw [hlen]
    exact tupF I ((r.drop (HT.sIx xs.length 0 lo)).take (HT.sIx xs.length xs.length hi - HT.sIx xs.length 0 lo)) (Nat.le_trans (cutV_length xs lo hi) hz) (q2 hw)
theorem op_repF : OpR X (binaryOp .Mult) (rRepF X.K) := by
  intro pins s σ H x y v u Q I rx ry h
  obtain ⟨l, k, xs, e1, e2, hT, hne, h1, h2, hz, q⟩ := h
  subst e1 e2
  cases rx
  obtain ⟨t, rfl⟩ := ry
  obtain ⟨its, r, ⟨⟨cls, dd, data, sl⟩, ho, hc, n, hd⟩, hs⟩ := I.tuple hT
  simp only at hc hd
  subst hc hd
  have hle : its.length = xs.length := r.length.symm
  have hi : its.toArray.isEmpty = false := by cases its with | nil => exact absurd (List.eq_nil_of_length_eq_zero hle.symm) hne | cons a b => rfl
  have hm : ((its.toArray.size : Nat) : Int) * k ≤ 1000000 := by
    have a1 : ((xs.length : Nat) : Int) * k ≤ 1000 * k := Int.mul_le_mul_of_nonneg_right (by omega) (by omega)
    rw [List.size_toArray, hle]; omega
  have fl : (List.replicate k.toNat its).flatten.length ≤ sizeLine := by
    have a1 : k.toNat * xs.length ≤ 1000 * 1000 := Nat.mul_le_mul (by omega) hz
    rw [PyProof.Rows.lm_len_rep_flat, hle, sizeLine_eq]; omega
  have c0 : (decide (k < -(2 ^ 63)) || decide (k ≥ 2 ^ 63)) = false := by rw [decide_eq_false (by omega), decide_eq_false (by omega)]; rfl
  have c1 : (its.toArray.isEmpty || k == 1) = false := by rw [hi, Bool.false_or]; exact beq_eq_false_iff_ne.mpr (by omega)
  have c2 : (decide (k ≤ 0) || its.toArray.isEmpty) = false := by rw [hi, Bool.or_false]; exact decide_eq_false (by omega)
  have c4 : Builtin.Tuple.tupleTooMany (((its.toArray.size : Nat) : Int) * k) = false := by unfold Builtin.Tuple.tupleTooMany; rw [sizeLine_eq]; exact decide_eq_false (by omega)
  have m1 := tuple_mulW l its.toArray n dd sl k t c0 c1 c2 (by omega) c4 (by rw [size_rep, List.size_toArray]; exact fl)
  refine wpAny_binaryOp_repeat_ref (T := "tuple") (U := "int") (by decide) ⟨_, ho, rfl⟩ (fun s' => typeIs_int s' k t) noFill_tuple_mul F.fills_int_mul F.slot_int_rmul repeat_tuple F.slot_int_index.lookup (call_meets F.slot_int_rmul (typeIs_int s k t) F.entry_int_rmul (F.args_int_rmul_2 _ _) (int_rmul_tuple k t l its.toArray n dd sl) ⟨ho, rfl, ⟨_, ho, rfl⟩, call_meets F.slot_tuple_mul ⟨_, ho, rfl⟩ F.entry_tuple_mul (F.args_tuple_mul_2 _ _) m1 ⟨ho, ?_⟩⟩)
  rw [size_rep]
  exact tupF I (r.rep k.toNat) (by rw [(r.rep k.toNat).length]; exact fl) q
end
end TB
end
-- TB3
section
set_option Elab.async false
set_option linter.all false
set_option maxRecDepth 100000
set_option maxHeartbeats 2000000
/-! TB3: the context of a def's body with its parts by name, and the rules over it. -/
namespace TB
open PySem L2
abbrev GK (sc : Scope) (x : Str) : Prop := sc.names.lookup x = some .globalImplicit
structure Ctx (X : Cx) (P : Program) (w : World) (K : PySem.W.Frag) (mg : Str → Option Value) (base : Heap) (N : List Str) (sc : Scope) (lv : Nat) : Prop where
  hP : X.prog = P
  hw : X.w = w
  hK : X.K = K
  hmg : X.mg = mg
  hb : X.base = base
  hN : X.N = N
  nd : N.Nodup
  hsc : X.env.scope = sc
  calm : X.calm = true
  room : Room lv X.A
  never : X.xe = fun _ _ => False
  grd : X.A.guards = some []
/-- .. of a def -/
structure FCtx (X : Cx) (P : Program) (w : World) (K : PySem.W.Frag) (mg : Str → Option Value) (base : Heap) (N : List Str) (sc : Scope) (lv : Nat) : Prop extends Ctx X P w K mg base N sc lv where
  fn : ∀ x, X.fn x = true
section
variable {X : Cx} {P : Program} {w : World} {K : PySem.W.Frag} {mg : Str → Option Value} {base : Heap} {N : List Str} {sc : Scope} {lv : Nat}
theorem Ctx.hu (C : Ctx X P w K mg base N sc lv) : X.A.units + 64 < cLine := C.room.units
theorem Ctx.pass (C : Ctx X P w K mg base N sc lv) : PassesOwn (model X.prog X.w) X.A X.env X.xe := by rw [C.never]; exact PassesOwn.never
theorem Ctx.gl (C : Ctx X P w K mg base N sc lv) {x : Str} (h : GK sc x) : Gl X x := by
  unfold Gl Env.kindOf
  rw [C.hsc]; exact h
theorem Ctx.blk (C : Ctx X P w K mg base N sc lv) (s : Shared) (H : Hp) (scope : Scope) (c : Addr) (cl : List (Str × Addr)) (fp : List Addr) : Ctx (X.blk s H scope (compEnvC scope cl c X.env) fp) P w K mg base N (relS scope sc) lv := by
  obtain ⟨h1, h2, h3, h4, h5, h6, h7, h8, h9, h10, h11, h12⟩ := C
  exact ⟨h1, h2, h3, h4, h5, h6, h7, by rw [← h8]; rfl, h9, h10, rfl, h12⟩
variable {a b e : Expr} {es : List Expr} {ta tb te : TE} {tr : TA} {pos : Pos}
theorem q_var (C : Ctx X P w K mg base N sc lv) (i : Nat) {x : Str} (h : N[i]? = some x := by rfl) (hv : Vis sc x := by first | exact Or.inl rfl | exact Or.inr (Or.inl rfl) | exact Or.inr (Or.inr rfl))
    (hd : (x == ("__debug__" : Str)) = false := by decide) (hcd : (x == ("__classdict__" : Str)) = false := by decide) : PE X (.Name x pos) (tVar i) :=
  pe_var (by rw [C.hN]; exact h) (by rw [C.hsc]; exact hv) hd hcd
/-- a constant of the module -/
theorem q_glob (C : Ctx X P w K mg base N sc lv) {x : Str} {v : V} {u : Value} (hm : mg x = some u) (r : RelV v u) (hg : GK sc x := by rfl) (hd : (x == ("__debug__" : Str)) = false := by decide) : PE X (.Name x pos) (tC v) :=
  pe_glob (C.gl hg) (by rw [C.hmg]; exact hm) r hd
/-- a built-in class as a value -/
theorem q_ty (C : Ctx X P w K mg base N sc lv) {x : Str} {T : String} (hm : mg x = none) (hv : bootBuiltins x = some (.type T)) (hg : GK sc x := by rfl) (hn : x ≠ "__name__" := by decide) (hd : (x == ("__debug__" : Str)) = false := by decide) : PE X (.Name x pos) (tC (.ty T)) :=
  pe_bltn (C.gl hg) (by rw [C.hmg]; exact hm) hv rfl hn hd
theorem q_ix (C : Ctx X P w K mg base N sc lv) (ha : PE X a ta) (hb : PE X b tb) (hs : PlainIx b := by exact fun _ _ => rfl) : PE X (.Subscript a b pos) (tIx K ta tb) := by
  have hu := C.hu
  have := C.hK; subst this; exact pe_or (pe_ix ix_seq ha hb hs) (pe_dget (by omega) ha hb hs)
/-- a def by its name -/
structure Def (P : Program) (w : World) (K : PySem.W.Frag) (mg : Str → Option Value) (base : Heap) (lv : Nat) (x : Str) (n : Nat) (dvs : List V) (sp : Sp) : Prop where
  ex : ∃ (f : Addr) (fd : FuncData) (ps : List Str) (ds : List Value), FnG P w K mg base CX0 lv f fd ps sp ∧ mg x = some (.ref f) ∧ PySem.W.keepIn K (.ref f) = true ∧ Binds K fd ps ds ∧ Vals dvs ds
theorem q_call (C : Ctx X P w K mg base N sc lv) {x : Str} {l n : Nat} {dvs : List V} {sp : Sp} {p : Pos} (D : Def P w K mg base l x n dvs sp) (ha : PA X (e :: es) tr) (hl : l ≤ lv := by decide) (hg : GK sc x := by rfl)
    (hdb : (x == ("__debug__" : Str)) = false := by decide) (he : starEach (e :: es) X.env = (false, eval e X.env) :: starEach es X.env := by rfl) (hpl : (backTo pos (starEach es X.env)).any (·.1) = false := by rfl) :
    PE X (.Call (.Name x p) (e :: es) [] pos) (tCall sp dvs E0 tr) := by
  obtain ⟨h1, h2, h3, h4, h5, h6, h7, h8, h9, h10, h11, h12⟩ := C
  subst h1 h2 h3 h4 h5
  obtain ⟨f, fd, ps, ds, F, m, kp, b, v⟩ := D.ex
  exact pe_callG F (h10.mono hl) h12 (by unfold Gl Env.kindOf; rw [h8]; exact hg) m kp b v (E := E0) (fun _ _ _ _ _ _ _ z => z.elim) ha (hdb) (he) (hpl)
/-- a def called with keywords -/
structure DefN (P : Program) (w : World) (K : PySem.W.Frag) (mg : Str → Option Value) (base : Heap) (lv : Nat) (x : Str) (n : Nat) (ks : List Str) (gV : List V → List V → List V) (sp : Sp) : Prop where
  ex : ∃ (f : Addr) (fd : FuncData) (ps : List Str) (g : List Value → List Value → List Value), FnG P w K mg base CX0 lv f fd ps sp ∧ mg x = some (.ref f) ∧ PySem.W.keepIn K (.ref f) = true ∧ KBn K fd ps n ks g gV
theorem q_callN (C : Ctx X P w K mg base N sc lv) {x : Str} {l n : Nat} {ks : List Str} {gV : List V → List V → List V} {sp : Sp} {kws : List Keyword} {tk : TA} {p : Pos} (D : DefN P w K mg base l x n ks gV sp) (ha : PA X (e :: es) tr) (hkw : PK X kws tk) (hl : l ≤ lv := by decide) (hg : GK sc x := by rfl)
    (hall : (backToKw pos (keywordEach kws X.env)).all (·.1.isSome) = true := by rfl) (hks : (backToKw pos (keywordEach kws X.env)).filterMap (·.1) = ks := by rfl)
    (hdb : (x == ("__debug__" : Str)) = false := by decide) (he : starEach (e :: es) X.env = (false, eval e X.env) :: starEach es X.env := by rfl)
    (hpl : ((backTo pos (starEach (e :: es) X.env)).any (·.1) || (backToKw pos (keywordEach kws X.env)).any (·.1.isNone)) = false := by rfl) :
    PE X (.Call (.Name x p) (e :: es) kws pos) (tCallN n ks.length sp gV E0 tr tk) := by
  obtain ⟨h1, h2, h3, h4, h5, h6, h7, h8, h9, h10, h11, h12⟩ := C
  subst h1 h2 h3 h4 h5
  obtain ⟨f, fd, ps, g, F, m, kp, b⟩ := D.ex
  exact pe_callGN F (h10.mono hl) h12 (by unfold Gl Env.kindOf; rw [h8]; exact hg) m kp b (E := E0) (fun _ _ _ _ _ _ _ z => z.elim) ha hkw hall hks hdb he hpl
end
/-! ### built-ins -/
section
variable {X : Cx} {P : Program} {w : World} {K : PySem.W.Frag} {mg : Str → Option Value} {base : Heap} {N : List Str} {sc : Scope} {lv : Nat} {a b e : Expr} {ta tb te : TE} {p p2 pos : Pos} {tr : TA}
def rLenA (K : PySem.W.Frag) : List V → Hp → VK → Prop := fun xs H Q => (∃ p ys, xs = [.ref p] ∧ (SqL K H p ys ∨ SqT K H p ys) ∧ Q (.int ys.length) H) ∨ ∃ z, xs = [.str z] ∧ z.length ≤ sizeLine ∧ Q (.int z.length) H
theorem q_isi (C : Ctx X P w K mg base N sc lv) (hm : mg "isinstance" = none) (ha : PA X [a, b] tr) (hg : GK sc "isinstance" := by rfl)
    (h1 : starEach [a, b] X.env = (false, eval a X.env) :: starEach [b] X.env := by rfl) (h2 : (backTo pos (starEach [b] X.env)).any (·.1) = false := by rfl) : PE X (.Call (.Name "isinstance" p) [a, b] [] pos) (tCB (fun xs H Q => rIsi K xs H Q ∨ rIsiT K xs H Q) tr) := by
  have := C.hK; subst this
  exact pe_callB (call_isi.or call_isiT) (C.gl hg) (by rw [C.hmg]; exact hm) (by decide +kernel) ha (by decide) (by decide) h1 h2
theorem q_all (C : Ctx X P w K mg base N sc lv) (hm : mg "all" = none) (ha : PA X [e] tr) (hg : GK sc "all" := by rfl) (h1 : starEach [e] X.env = (false, eval e X.env) :: starEach [] X.env := by rfl) (h2 : (backTo pos (starEach [] X.env)).any (·.1) = false := by rfl) : PE X (.Call (.Name "all" p) [e] [] pos) (tCB (rAll K) tr) := by
  have := C.hK; subst this
  exact pe_callB (cr_all C.calm) (C.gl hg) (by rw [C.hmg]; exact hm) (by decide +kernel) ha (by decide) (by decide) h1 h2
theorem q_any (C : Ctx X P w K mg base N sc lv) (hm : mg "any" = none) (ha : PA X [e] tr) (hg : GK sc "any" := by rfl) (h1 : starEach [e] X.env = (false, eval e X.env) :: starEach [] X.env := by rfl) (h2 : (backTo pos (starEach [] X.env)).any (·.1) = false := by rfl) : PE X (.Call (.Name "any" p) [e] [] pos) (tCB (rAny K) tr) := by
  have := C.hK; subst this
  exact pe_callB (cr_any C.calm) (C.gl hg) (by rw [C.hmg]; exact hm) (by decide +kernel) ha (by decide) (by decide) h1 h2
def rLstOf (K : PySem.W.Frag) : List V → Hp → VK → Prop := fun xs H Q => ∃ p ys, xs = [.ref p] ∧ (SqL K H p ys ∨ SqT K H p ys) ∧ ∀ l, H l = none → Q (.ref l) (upd H l (.lst ys))
theorem q_tuple (C : Ctx X P w K mg base N sc lv) (hm : mg "tuple" = none) (ha : PA X [e] tr) (hg : GK sc "tuple" := by rfl) (h1 : starEach [e] X.env = (false, eval e X.env) :: starEach [] X.env := by rfl) (h2 : (backTo pos (starEach [] X.env)).any (·.1) = false := by rfl) : PE X (.Call (.Name "tuple" p) [e] [] pos) (tCB (rTupF K) tr) := by
  have := C.hK; subst this
  exact pe_callTy call_tupleF (C.gl hg) (by rw [C.hmg]; exact hm) (by decide +kernel) ha (by decide) (by decide) h1 h2
theorem q_list (C : Ctx X P w K mg base N sc lv) (hm : mg "list" = none) (ha : PA X [e] tr) (hg : GK sc "list" := by rfl) (h1 : starEach [e] X.env = (false, eval e X.env) :: starEach [] X.env := by rfl) (h2 : (backTo pos (starEach [] X.env)).any (·.1) = false := by rfl) : PE X (.Call (.Name "list" p) [e] [] pos) (tCB (rLstOf K) tr) := by
  have := C.hK; subst this
  exact pe_callTy call_list_of (C.gl hg) (by rw [C.hmg]; exact hm) (by decide +kernel) ha (by decide) (by decide) h1 h2
/-- a slice of a tuple, of a list -/
def rSlB (K : PySem.W.Frag) : V → Option Int → Option Int → Hp → VK → Prop := fun x lo hi H Q => rSlF K x lo hi H Q ∨ rSlL K x lo hi H Q
theorem q_slice (C : Ctx X P w K mg base N sc lv) {lo hi : Option Expr} {tl th : TO} (he : PE X e te) (hl : PO X lo tl) (hu : PO X hi th) : PE X (.Subscript e (.Slice lo hi none p2) pos) (tSl (rSlB K) te tl th) := by
  have := C.hK; subst this; exact pe_slice (sl_tupF.or sl_list) he hl hu
/-! statements -/
theorem q_set (C : FCtx X P w K mg base N sc lv) (i : Nat) {x : Str} {pos' : Pos} (he : PE X e te) (hi : N[i]? = some x := by rfl) (hx : Loc sc x := by first | exact Or.inl rfl | exact Or.inr rfl) (hs : swapsWith e (some (.Name x pos')) pos.line X.env = pure false := by rfl) :
    PS X (.Assign [.Name x pos'] e pos) (tAsg te (gName i)) :=
  ps_set (by rw [C.hN]; exact C.nd) (by rw [C.hN]; exact hi) (by rw [C.hsc]; exact hx) he hs (Or.inl (C.fn x))
theorem q_name (C : FCtx X P w K mg base N sc lv) (i : Nat) {x : Str} (hi : N[i]? = some x := by rfl) (hx : Loc sc x := by first | exact Or.inl rfl | exact Or.inr rfl) : PG X (.Name x pos) (gName i) :=
  pg_name (by rw [C.hN]; exact C.nd) (by rw [C.hN]; exact hi) (by rw [C.hsc]; exact hx) (Or.inl (C.fn x))
/-- a comprehension's own name -/
theorem q_nameC (C : Ctx X P w K mg base N sc lv) (i : Nat) {x : Str} (hi : N[i]? = some x := by rfl) (hx : sc.names.lookup x = some .local := by rfl) : PG X (.Name x pos) (gName i) :=
  pg_name (by rw [C.hN]; exact C.nd) (by rw [C.hN]; exact hi) (by rw [C.hsc]; exact Or.inl hx) (Or.inr (by rw [C.hsc]; exact hx))
theorem q_for (C : Ctx X P w K mg base N sc lv) {tg iter : Expr} {body : List Stmt} {wi : TI} {g : TG} {tb : TS} (hi : PI X tg iter wi) (hg : PG X tg g) (hb : PSs X body tb) (hs : ∀ x, foldedSetIterable iter X.env x = pure x := by intro _; rfl) : PS X (.For tg iter body [] pos) (tFor wi g tb) :=
  ps_for C.pass C.calm hi hg hb hs
theorem q_while (C : Ctx X P w K mg base N sc lv) {c : Expr} {body : List Stmt} {tc : TT} {tb : TS} (hc : PT X c tc) (hb : PSs X body tb) : PS X (.While c body [] pos) (tWhile tc tb) := ps_while C.pass hc hb
theorem blockKind_of {env : Env} (h : env.scope.kind = .function) : env.blockKind = .function := by unfold Env.blockKind; rw [h]; rfl
/-- what swappedStores asks of the env, by the scope -/
def swapNames (sc : Scope) (ts : List Expr) : List Str := ts.filterMap fun
    | .Name id pos => if sc.names.lookup id == some .local && pos.line == (ts.head?.map (·.pos.line)).getD 0 then some id else none
    | _ => none
def swapStar (vs : List Expr) : Bool := vs.any fun | .Starred .. => true | _ => false
def swapD (sc : Scope) (ts vs : List Expr) : Option (List Str) :=
  if (!(ts.length == 2 || ts.length == 3) || vs.length != ts.length) then none else
  if swapStar vs then none else
  if (swapNames sc ts).length != ts.length || (swapNames sc ts).eraseDups.length != (swapNames sc ts).length then none else
  if vs.all (foldedForSure 8) then none else some (swapNames sc ts)
theorem swap_of {env : Env} {ts vs : List Expr} {k k2 : Nat} {p p2 : Pos} (hk : env.scope.kind = .function) (hc : vs.all (foldedForSure 8) = true ∨ vs.all (constantsAlone 8) = false) :
    swappedStores [.Tuple ts k p] (.Tuple vs k2 p2) env = pure (swapD env.scope ts vs) := by
  have hb : (env.blockKind != ScopeKind.function) = false := by rw [blockKind_of hk]; rfl
  unfold swappedStores swapD
  simp only [hb, Bool.or_false, Env.kindOf]
  by_cases h : (!(ts.length == 2 || ts.length == 3) || vs.length != ts.length) = true
  · exact (if_pos h).trans (congrArg pure (if_pos h)).symm
  · refine (if_neg h).trans (Eq.trans ?_ (congrArg pure (if_neg h)).symm)
    by_cases h : swapStar vs = true
    · exact (if_pos h).trans (congrArg pure (if_pos h)).symm
    · refine (if_neg h).trans (Eq.trans ?_ (congrArg pure (if_neg h)).symm)
      by_cases h : ((swapNames env.scope ts).length != ts.length || (swapNames env.scope ts).eraseDups.length != (swapNames env.scope ts).length) = true
      · exact (if_pos h).trans (congrArg pure (if_pos h)).symm
      · refine (if_neg h).trans (Eq.trans ?_ (congrArg pure (if_neg h)).symm)
        by_cases h : vs.all (foldedForSure 8) = true
        · exact (if_pos h).trans (congrArg pure (if_pos h)).symm
        · refine (if_neg h).trans (Eq.trans ?_ (congrArg pure (if_neg h)).symm)
          rcases hc with z | z
          · exact absurd z h
          · exact if_neg (by rw [z]; exact Bool.false_ne_true)
theorem q_par (C : Ctx X P w K mg base N sc lv) (i j : Nat) {x y : Str} {a b : Expr} {ta : TA} {px py pt : Pos} {kt k2 : Nat} {pt2 : Pos} (ha : PA X [a, b] ta) (hi : N[i]? = some x := by rfl) (hj : N[j]? = some y := by rfl) (hij : i ≠ j := by decide)
    (hx : sc.names.lookup x = some .local := by rfl) (hy : sc.names.lookup y = some .local := by rfl) (hk : sc.kind = .function := by rfl) (hc : [a, b].all (constantsAlone 8) = false := by rfl) (hw : swapD sc [.Name x px, .Name y py] [a, b] = some [x, y] := by decide +kernel)
    (hs : swapsWithSole [.Tuple [.Name x px, .Name y py] kt pt] (.Tuple [a, b] k2 pt2) pos.line X.env = pure false := by rfl) :
    PS X (.Assign [.Tuple [.Name x px, .Name y py] kt pt] (.Tuple [a, b] k2 pt2) pos) (tPar i j ta) :=
  ps_par C.calm (by rw [C.hN]; exact C.nd) (by rw [C.hN]; exact hi) (by rw [C.hN]; exact hj) hij (by rw [C.hsc]; exact hx) (by rw [C.hsc]; exact hy) ha (by rw [swap_of (by rw [C.hsc]; exact hk) (Or.inr hc), C.hsc, hw]) hs
theorem q_par3 (C : Ctx X P w K mg base N sc lv) (i j l : Nat) {x y z : Str} {a b c : Expr} {ta : TA} {px py pz pt : Pos} {kt k2 : Nat} {pt2 : Pos} (ha : PA X [a, b, c] ta) (hi : N[i]? = some x := by rfl) (hj : N[j]? = some y := by rfl) (hl : N[l]? = some z := by rfl) (hij : i ≠ j := by decide) (hil : i ≠ l := by decide) (hjl : j ≠ l := by decide)
    (hx : sc.names.lookup x = some .local := by rfl) (hy : sc.names.lookup y = some .local := by rfl) (hz : sc.names.lookup z = some .local := by rfl) (hk : sc.kind = .function := by rfl) (hc : [a, b, c].all (constantsAlone 8) = false := by rfl) (hw : swapD sc [.Name x px, .Name y py, .Name z pz] [a, b, c] = some [x, y, z] := by decide +kernel)
    (hs : swapsWithSole [.Tuple [.Name x px, .Name y py, .Name z pz] kt pt] (.Tuple [a, b, c] k2 pt2) pos.line X.env = pure false := by rfl) :
    PS X (.Assign [.Tuple [.Name x px, .Name y py, .Name z pz] kt pt] (.Tuple [a, b, c] k2 pt2) pos) (tPar3 i j l ta) :=
  ps_par3 C.calm (by rw [C.hN]; exact C.nd) (by rw [C.hN]; exact hi) (by rw [C.hN]; exact hj) (by rw [C.hN]; exact hl) hij hil hjl (by rw [C.hsc]; exact hx) (by rw [C.hsc]; exact hy) (by rw [C.hsc]; exact hz) ha (by rw [swap_of (by rw [C.hsc]; exact hk) (Or.inr hc), C.hsc, hw]) hs
end
end TB
end
-- TB4
section
set_option Elab.async false
set_option linter.all false
set_option maxRecDepth 100000
set_option maxHeartbeats 2000000
/-! TB4: enumerate of a tuple; what built-ins are worth at the data level; comprehensions' terms. -/
namespace TB
open PySem L2 PyProof.Rows
set_option maxHeartbeats 4000000 in
theorem meets_enum1 {v : Value} {o : Obj} {H : Heap → Prop} (B : Begins v o H) :
    Meets (Builtin.«enumerate.__new__» ⟨[.type "enumerate", v], []⟩) (fun _ R s => H s.heap ∧
      R (.ok (.ret (.ref (s.heap.push o).objs.size))) { s with heap := (s.heap.push o).push { cls := .type "enumerate", data := .fields #[.none, .bool false, .ref s.heap.objs.size, rawInt 0, .none, .none] } }) :=
  .of_wp fun prog w A R s h => by
    obtain ⟨hp, g, d, tk, os⟩ := s; obtain ⟨h1, h⟩ := h
    have hsub := sub_enumerate
    have q1 : ∀ {A' : Around} {E : Value → Shared → Prop} {Q : Value → Shared → Prop}, Q (.ref hp.objs.size) ⟨hp.push o, g, d, tk, os⟩ → wpAny (model prog w) A' (pyIter v) Q E ⟨hp, g, d, tk, os⟩ :=
      fun q => B.iter prog w _ _ ⟨hp, g, d, tk, os⟩ _ h1 q
    wp_walk using q1
    refine wpAny_stack_any fun st => wpAny_pure ?_
    split
    · rename_i c _ _ _ _ _
      cases (c == Value.type "enumerate")
      · wp_walk using q1
        exact ⟨_, rfl, h⟩
      · wp_walk using q1
        exact ⟨_, rfl, h⟩
    · wp_walk using q1
      exact ⟨_, rfl, h⟩
section
variable {prog : Program} {w : World} {A : Around} {E : Value → Shared → Prop} {s : Shared}
theorem enum_begins1 {v : Value} {o : Obj} {H : Heap → Prop} {Q : Value → Shared → Prop} (B : Begins v o H) (h1 : H s.heap)
    (h : ∀ h', IsEnum h' (s.heap.objs.size + 1) s.heap.objs.size 0 .none → h'.get? s.heap.objs.size = some o → h'.objs.size = s.heap.objs.size + 2 →
      (∀ b o, s.heap.get? b = some o → h'.get? b = some o) → Q (.ref (s.heap.objs.size + 1)) { s with heap := h' }) :
    wpAny (model prog w) A (call (.type "enumerate") [v]) Q E s := by
  refine callType_new F.called_enumerate (by decide) (F.typeCall_enumerate_1 _) (F.newCall_enumerate_1 _) (fun obj => F.args_object_init_2 obj _) F.entry_enumerate_new
    (meets_enum1 B) ⟨h1, ?_⟩
  have hz : (s.heap.push o).objs.size = s.heap.objs.size + 1 := Heap.size_push ..
  show _ ∧ _
  rw [hz]
  have he : IsEnum ((s.heap.push o).push { cls := .type "enumerate", data := .fields #[.none, .bool false, .ref s.heap.objs.size, rawInt 0, .none, .none] }) (s.heap.objs.size + 1) s.heap.objs.size 0 .none := by
    have := Heap.get?_push_size (s.heap.push o) (o := { cls := .type "enumerate", data := .fields #[.none, .bool false, .ref s.heap.objs.size, rawInt 0, .none, .none] }) rfl
    rw [hz] at this; exact this
  refine ⟨⟨_, he, rfl⟩, h _ he (Heap.get?_push_of_some _ (Heap.get?_push_size _ B.free)) (by rw [Heap.size_push, hz]) fun b o x => Heap.get?_push_of_some _ (Heap.get?_push_of_some _ x)⟩
end
/-- the tuple at a, each item in a new pair -/
def IteT (K : PySem.W.Frag) (a : Addr) : It :=
  ⟨fun i H => ∃ (xs : List V) (x : V), SqT K H a xs ∧ xs[i]? = some x, fun i H v H' => ∃ T x, v = .ref T ∧ H T = none ∧ H' = upd H T (.tup [.int (i : Nat), x]) ∧ ∀ xs, SqT K H a xs → xs[i]? = some x, fun i H => ∃ xs : List V, SqT K H a xs ∧ xs.length ≤ i⟩
theorem turn_enumT {P : Program} {w : World} {K : PySem.W.Frag} {elts : List Expr} {kk : Nat} {tpos : Pos} (a e it : Addr) :
    Turn P w K (.Tuple elts kk tpos) (IteT K a) [e, it] e (fun i h => (∃ old, IsEnum h e it ((i : Nat) : Int) old) ∧ h.IsTupleIter it a i ∧ e ≠ it) where
  mem := by simp
  obj := fun i h st b hb => by
    obtain ⟨⟨old, he⟩, ⟨o, ho, hc, hd⟩, _⟩ := st
    have e' : b = e ∨ b = it := by simpa using hb
    rcases e' with z | z
    · rw [z]; exact ⟨_, he, fun v q => nomatch q⟩
    · rw [z]; exact ⟨o, ho, fun v q => by rw [hd] at q; cases q⟩
  keep := fun i h h' st k => let ⟨⟨old, he⟩, hi, hne⟩ := st; ⟨⟨old, k e (by simp) _ he⟩, hi.at fun o q => k it (by simp) o q, hne⟩
  item := by
    intro X hP hw hK hc i pins s σ H E I hf st hg
    subst hP hw hK
    obtain ⟨⟨old, he⟩, hit, hne⟩ := st
    obtain ⟨xs, x, hq, hx⟩ := hg
    obtain ⟨its, rv, p, hz⟩ := I.tuple hq
    obtain ⟨u, hu, ru⟩ := rv.get hx
    have hel : e < s.heap.objs.size := Heap.lt_size he
    have hil : it < s.heap.objs.size := by obtain ⟨_, q, _⟩ := hit; exact Heap.lt_size q
    have hai : a ≠ it := fun z => by
      obtain ⟨o1, q1, c1, _⟩ := hit
      obtain ⟨o2, q2, c2, _⟩ := p
      rw [z, q1] at q2; cases q2; rw [c1] at c2; injection c2 with c2; exact absurd c2 (by decide)
    have hae : e ≠ a := fun z => by
      obtain ⟨o2, q2, c2, _⟩ := p
      have he' : s.heap.get? e = some _ := he
      rw [← z, he'] at q2; cases q2; injection c2 with c2; exact absurd c2 (by decide)
    have hA : X.A.in1.handled = none := I.ok.hd hc
    have hlt : i < its.toArray.size := by
      have := (List.getElem?_eq_some_iff.mp hu).1
      simpa using this
    refine wpAny_pyNext_enum_itemC (Draws.tuple hA it a hai its.toArray) he ⟨hit, p⟩ hlt hne (by simp [hne, hae]) fun x' h' tk hP ho hit' hT hsz hk => ?_
    have ex : x' = u := by
      have h1 : its.toArray[i]? = some x' := hP
      rw [show its.toArray[i]? = its[i]? by simp, hu] at h1
      exact (Option.some.inj h1).symm
    subst ex
    refine ⟨_, rfl, wpAny_letOwnedTupleGo_enum (s := { s with heap := h', toks := tk + 1 }) ho fun h'' he' sb => ?_⟩
    have hT2 : h''.get? s.heap.objs.size = some { cls := .type "tuple", data := .seq #[.int i tk, x'] } := (sb.2 _ (Nat.ne_of_gt hel)).trans hT
    have new : ObjOk X.prog X.w (upd H s.heap.objs.size (.tup [.int (i : Nat), x])) h'' s.heap.objs.size (.tup [.int (i : Nat), x]) :=
      ⟨by show 2 ≤ sizeLine; decide, [.int i tk, x'], .cons ⟨_, rfl⟩ (.cons ru .nil), ⟨_, hT2, rfl, _, rfl⟩⟩
    have I1 : Inv X pins σ (upd H s.heap.objs.size (.tup [.int (i : Nat), x])) { s with heap := h'', toks := tk + 1 } :=
      I.turnedNew (ch := [e, it]) (fun b ob hb q => (sb.2 b (fun z => hb (by simp [z]))).trans (hk b ob (fun z => hb (by simp [z])) (fun z => hb (by simp [z])) q)) hf (Nat.le_refl _) new
    refine ⟨.ref s.heap.objs.size, _, I1, rfl, ⟨_, x, rfl, I.hok.fresh (Nat.le_refl _), rfl, fun ys hy => by rw [I.tuple_inj hy hq]; exact hx⟩, ⟨⟨x', ?_⟩, hit'.1.at fun o q => (sb.2 it (Ne.symm hne)).trans q, hne⟩, fun b hb => ?_⟩
    · have e1 : ((i + 1 : Nat) : Int) = (i : Int) + 1 := by omega
      rw [e1]; exact he'
    · have hb' : b < s.heap.objs.size := by
        have e' : b = e ∨ b = it := by simpa using hb
        rcases e' with z | z
        · rw [z]; exact hel
        · rw [z]; exact hil
      rw [upd_ne (Nat.ne_of_lt hb')]
      exact (hf b hb).1
  done := by
    intro X hP hw hK hc i pins s σ H E I hf st hg
    subst hP hw hK
    obtain ⟨⟨old, he⟩, hit, hne⟩ := st
    obtain ⟨xs, hq, hx⟩ := hg
    obtain ⟨its, rv, p, hz⟩ := I.tuple hq
    obtain ⟨f0, f1, f2, f3, f4, f5⟩ := hf it (by simp)
    have hl := rv.length
    have hai : a ≠ it := fun z => by
      obtain ⟨o1, q1, c1, _⟩ := hit
      obtain ⟨o2, q2, c2, _⟩ := p
      rw [z, q1] at q2; cases q2; rw [c1] at c2; injection c2 with c2; exact absurd c2 (by decide)
    have hA : X.A.in1.handled = none := I.ok.hd hc
    have hge : its.toArray[i]? = none := by simp; omega
    unfold pyNext
    have hT : s.TypeIs (.ref e) "enumerate" := ⟨_, he, rfl⟩
    refine wpAny_bind (wpAny_attempt (wpAny_callSpecial?_slot (name := Str.ofString "__next__") hT F.slot_enumerate_next
      (wpAny_call_entry F.slot_enumerate_next hT F.entry_enumerate_next ?_ (F.args_enumerate_next_1 _))))
    show wpAny _ _ (field (.ref e) 2 >>= _) _ _ _
    refine wpAny_bind (wpAny_field he rfl (x := .ref it) rfl ?_)
    refine wpAny_bind (wpAny_nextOf_tuple_end hA hit p hge fun h' e' eb st => ?_)
    obtain ⟨o, ho, hc2⟩ := st
    refine wpAny_bind (wpAny_isInstance (T := "StopIteration") (b := true) ⟨o, ho, hc2⟩ isSubtype_stop ?_)
    exact wpAny_pure ⟨rfl, I.turned (t' := s.toks) (fun b o hb q => eb b o hb q) f0 f1 f3 f4 f5⟩
  self := fun A i s Q E st h => let ⟨⟨_, he⟩, _⟩ := st; wpAny_pyIter_enum he h
/-- enumerate of a list or a tuple -/
def iEnumA (K : PySem.W.Frag) (ta : TA) : TI := fun σ H R => ta σ H fun vs H1 => (∃ a xs, vs = [.ref a] ∧ SqL K H1 a xs ∧ R (Ite K a) H1) ∨ ∃ a xs, vs = [.ref a] ∧ SqT K H1 a xs ∧ R (IteT K a) H1
theorem pi_enumA {X : Cx} {e : Expr} {ta : TA} {p pos tpos : Pos} {elts : List Expr} {kk : Nat} (hg : Gl X "enumerate") (hm : X.mg "enumerate" = none) (ha : PA X [e] ta) (hs : starEach [e] X.env = [(false, eval e X.env)]) (hp : (backTo pos (starEach [] X.env)).any (·.1) = false) :
    PI X (.Tuple elts kk tpos) (.Call (.Name "enumerate" p) [e] [] pos) (iEnumA X.K ta) := by
  refine ⟨fun pins s σ H R I h => ?_⟩
  refine Call_ (ld_blt I hg hm boot_enumerate (PyProof.Rows.callWith_type1 (thn (ha.run pos pins s σ H _ I h) fun us s1 ⟨vs, H1, I1, r1, q1⟩ => ?_) hs hp))
  rcases q1 with ⟨a, xs, ex, hq, q⟩ | ⟨a, xs, ex, hq, q⟩
  · subst ex
    cases r1 with
    | cons r rr =>
      cases rr
      cases r
      obtain ⟨its, rv, p', hz⟩ := I1.list hq
      refine call_enumerate_list p'.isList fun h' he hit hsz hk => wpAny_pyIter_enum he ?_
      have I2 : Inv X pins σ H1 { s1 with heap := h' } := I1.kept (t' := s1.toks) hk
      refine ⟨s1.heap.objs.size + 1, [s1.heap.objs.size + 1, s1.heap.objs.size], _, _, H1, rfl, I2, turn_enum a (s1.heap.objs.size + 1) s1.heap.objs.size, ⟨⟨.none, he⟩, hit, Nat.succ_ne_self _⟩, fun b hb => ?_, q⟩
      have e' : b = s1.heap.objs.size + 1 ∨ b = s1.heap.objs.size := by simpa using hb
      have hle : s1.heap.objs.size ≤ b := by
        rcases e' with z | z
        · rw [z]; exact Nat.le_add_right _ _
        · rw [z]; exact Nat.le_refl _
      exact I1.fpOk hle (I1.hok.fresh hle)
  · subst ex
    cases r1 with
    | cons r rr =>
      cases rr
      cases r
      obtain ⟨its, rv, p', hz⟩ := I1.tuple hq
      refine enum_begins1 (begins_tuple a its.toArray) p' fun h' he hit hsz hk => wpAny_pyIter_enum he ?_
      have I2 : Inv X pins σ H1 { s1 with heap := h' } := I1.kept (t' := s1.toks) hk
      refine ⟨s1.heap.objs.size + 1, [s1.heap.objs.size + 1, s1.heap.objs.size], _, _, H1, rfl, I2, turn_enumT a (s1.heap.objs.size + 1) s1.heap.objs.size, ⟨⟨.none, he⟩, ⟨_, hit, rfl, rfl⟩, Nat.succ_ne_self _⟩, fun b hb => ?_, q⟩
      have e' : b = s1.heap.objs.size + 1 ∨ b = s1.heap.objs.size := by simpa using hb
      have hle : s1.heap.objs.size ≤ b := by
        rcases e' with z | z
        · rw [z]; exact Nat.le_add_right _ _
        · rw [z]; exact Nat.le_refl _
      exact I1.fpOk hle (I1.hok.fresh hle)
end TB
end
-- TB5
section
set_option Elab.async false
set_option linter.all false
set_option maxRecDepth 100000
set_option maxHeartbeats 2000000
/-! TB5: built-ins at the data level, comprehensions' terms, a def's proof. -/
namespace TB
open PySem L2
section
variable {K : PySem.W.Frag} {Γ : Gm} {O O1 O2 O3 : OH} {ta tb te : TE} {w : W} {tr tk : TA} {ws : List W} {ds es : List PyData} {d : PyData}
/-! built-in calls -/
/-- the built-in class of data -/
def tyD : PyData → String
  | .none => "NoneType"
  | .bool _ => "bool"
  | .int _ => "int"
  | .str _ => "str"
  | .list _ => "list"
  | .tuple _ => "tuple"
  | .dict _ => "dict"
theorem Rp.ty {H : Hp} {v : V} (r : Rp K H v d) : TyX K H v (.type (tyD d)) := by
  cases r with
  | non => exact .base .non
  | bl b => exact .base (.bl b)
  | int i => exact .base (.int i)
  | str x => exact .base (.str x)
  | lst h _ =>
    rcases h with (h | ⟨o, h⟩) | ⟨o, its, n, h, c, _⟩
    · exact .base (.lst h)
    · exact .base (.frz h)
    · exact .kList h c
  | tup h_ _ =>
    have h := h_.t
    rcases h with (h | ⟨o, h⟩) | ⟨o, its, n, h, c, _⟩
    · exact .base (.tup h)
    · exact .fTuple h
    · exact .kTuple h c
  | dct h _ =>
    rcases h with h | ⟨o, h⟩
    · exact .base (.dK h)
    · exact .fDict h
/-! slices -/
def cutD {α : Type} (xs : List α) (lo hi : Option Int) : List α := (xs.drop (HT.sIx xs.length 0 lo)).take (HT.sIx xs.length xs.length hi - HT.sIx xs.length 0 lo)
end
/-! ### terms of comprehensions -/
section
variable {X : Cx} {P : Program} {w : World} {K : PySem.W.Frag} {mg : Str → Option Value} {base : Heap} {N : List Str} {sc : Scope} {lv : Nat} {elt tg iter e : Expr} {ifs : List Expr} {scope : Scope} {wi : TI} {g : TG} {tt : TT} {te : TE} {p pos tpos : Pos} {tr : TA}
theorem q_rng1 (C : Ctx X P w K mg base N sc lv) {a : Expr} (hm : mg "range" = none) (ha : PA X [a] tr) (hg : GK sc "range" := by rfl) (hs : starEach [a] X.env = [(false, eval a X.env)] := by rfl) : PI X tg (.Call (.Name "range" p) [a] [] pos) (iRng1 tr) :=
  pi_range1 (C.gl hg) (by rw [C.hmg]; exact hm) ha hs
theorem q_enum (C : Ctx X P w K mg base N sc lv) {elts : List Expr} {kk : Nat} (hm : mg "enumerate" = none) (ha : PA X [e] tr) (hg : GK sc "enumerate" := by rfl) (hs : starEach [e] X.env = [(false, eval e X.env)] := by rfl) (hp : (backTo pos (starEach [] X.env)).any (·.1) = false := by rfl) :
    PI X (.Tuple elts kk tpos) (.Call (.Name "enumerate" p) [e] [] pos) (iEnumA K tr) := by
  have := C.hK; subst this; exact pi_enumA (C.gl hg) (by rw [C.hmg]; exact hm) ha hs hp
theorem q_lc (C : Ctx X P w K mg base N sc lv) (own : List (Str × Nat)) {vs : List Nat} (hi : PI X tg iter wi) (hg : ∀ X', Ctx X' P w K mg base N (relS scope sc) lv → PG X' tg g) (ht : ∀ X', Ctx X' P w K mg base N (relS scope sc) lv → PTs X' ifs tt)
    (he : ∀ X', Ctx X' P w K mg base N (relS scope sc) lv → PE X' elt te) (ok : blkC N sc scope own = true := by decide +kernel) (hv : own.map (·.2) = vs := by rfl) (hs : ∀ x, foldedSetIterable iter X.env x = pure x := by intro _; rfl) :
    PE X (.ListComp elt [⟨tg, iter, ifs, 0⟩] scope pos) (tLc wi g tt te vs) := by
  subst hv
  exact pe_lc C.calm (by rw [C.hN]; exact C.nd) hi (by rw [C.hN, C.hsc]; exact blkOk_by ok) (fun s H c cl fp => hg _ (C.blk s H scope c cl fp)) (fun s H c cl fp => ht _ (C.blk s H scope c cl fp)) (fun s H c cl fp => he _ (C.blk s H scope c cl fp)) hs
/-- y = [..], y a local of the same row -/
theorem q_setLc (C : FCtx X P w K mg base N sc lv) (i : Nat) (own : List (Str × Nat)) {vs : List Nat} {y : Str} {py spos : Pos} (hi : PI X tg iter wi) (hg : ∀ X', Ctx X' P w K mg base N (relS scope sc) lv → PG X' tg g) (ht : ∀ X', Ctx X' P w K mg base N (relS scope sc) lv → PTs X' ifs tt)
    (he : ∀ X', Ctx X' P w K mg base N (relS scope sc) lv → PE X' elt te) (hy : N[i]? = some y := by rfl) (hyl : sc.names.lookup y = some .local := by rfl) (hk : sc.kind = .function := by rfl) (hl : (py.line == pos.line) = true := by rfl) (ha : (scope.names.any fun (n, k) => n == y && (k == .local || k == .cell)) = false := by decide +kernel)
    (ok : blkC N sc scope own = true := by decide +kernel) (hv : own.map (·.2) = vs := by rfl) (hs : ∀ x, foldedSetIterable iter X.env x = pure x := by intro _; rfl) :
    PS X (.Assign [.Name y py] (.ListComp elt [⟨tg, iter, ifs, 0⟩] scope pos) spos) (tAsg (tLc wi g tt te vs) (gName i)) := by
  subst hv
  exact ps_setLc C.calm (by rw [C.hN]; exact C.nd) (by rw [C.hN]; exact hy) (by rw [C.hsc]; exact hyl) (sw_true (by rw [C.hsc]; exact hk) (by rw [C.hsc]; exact hyl) hl ha) hi (by rw [C.hN, C.hsc]; exact blkOk_by ok)
    (fun s H c cl fp => hg _ (C.blk s H scope c cl fp)) (fun s H c cl fp => ht _ (C.blk s H scope c cl fp)) (fun s H c cl fp => he _ (C.blk s H scope c cl fp)) hs
end
/-! ### a def -/
section
variable {P : Program} {w : World} {K : PySem.W.Frag} {mg : Str → Option Value} {base : Heap}
abbrev FunS (K : PySem.W.Frag) (x : Str) (st : Stmt) (dvs : List V) (kws : List (Str × V)) (f : Addr) (fd : FuncData) : Prop := FunD K x x (defArgs st) (defBody st) (defScope st) dvs kws f fd
/-! ### how calls bind -/
variable {x qual : Str} {params : Arguments} {body : List Stmt} {scope : Scope} {kws : List (Str × V)} {f : Addr} {fd : FuncData} {ps : List Str}
theorem kb_kw (F : FunD K x qual params body scope [] kws f fd) (n : Nat) (ks : List Str) (ms : List (Str × V)) (g : {α : Type} → List α → List α → List α → List α) (hk : kws ≠ []) (hms : ∀ q ∈ ms, q ∈ kws)
    (hrel : ∀ {vs mz zs : List V} {us mv ws : List Value}, Vals vs us → Vals mz mv → Vals zs ws → Vals (g vs mz zs) (g us mv ws))
    (h : ∀ (D : Addr) (doc pm : Value) (an : Option Addr) (cdv ct : Value) (us mv ws : List Value), us.length = n → mv.length = ms.length → ws.length = ks.length →
      KwChain D ((ms.map (·.1)).zip mv) (bindArgs (PySem.W.fnOf x qual params body scope .none (.ref D) doc pm an cdv ct) ⟨us, ks.zip ws⟩) (ps.zip (g us mv ws))) :
    ∃ mv : List Value, KBn K fd ps n ks (fun us ws => g us mv ws) (fun vs zs => g vs (ms.map (·.2)) zs) := by
  obtain ⟨oc, od, dV, kV, doc, pm, an, cdv, ct, osl, rfl, lk, hcd, hD, hK⟩ := F.ex
  rcases hD with ⟨_, rfl⟩ | ⟨e, _⟩
  · rcases hK with e | ⟨D, rfl, hq⟩
    · exact absurd e hk
    · obtain ⟨mv, hl, rk, hks⟩ := kwd_vals (ms := ms) fun q hm => hq q (hms q hm)
      exact ⟨mv, ⟨fun s us ws X l1 l2 => BindsTo.of_looks fun M => KwChain.looks X hks (h D doc pm an cdv ct us mv ws l1 hl l2), fun r1 r2 => hrel r1 rk r2⟩⟩
  · exact absurd rfl e
end
end TB
end
-- TB6
section
set_option Elab.async false
set_option linter.all false
set_option maxRecDepth 100000
set_option maxHeartbeats 4000000
/-! TB6: + and * of any kind, unpacking of lists, defs of the text, the law's end. -/
namespace TB
open PySem L2 PyProof.Rows
section
variable {X : Cx}
theorem Inv.lstR {pins : List (Addr × Obj)} {σ : L2.St} {H : Hp} {s : Shared} {l : Addr} {xs : List V} (I : Inv X pins σ H s) (hH : Rd H l (.lst xs)) : xs.length ≤ sizeLine ∧ ∃ (its : List Value) (n : Nat), Vals xs its ∧ xs.length = its.length ∧ s.heap.get? l = some { cls := .type "list", data := .seq its.toArray n } := by
  obtain ⟨z, its, n, r, e⟩ := hH.ok I.hok
  exact ⟨z, its, n, r, r.length, e⟩
def rCatL (K : PySem.W.Frag) : R2 := fun x y H Q => ∃ l b xs zs, x = .ref l ∧ y = .ref b ∧ SqL K H l xs ∧ SqL K H b zs ∧ xs.length + zs.length ≤ sizeLine ∧ ∀ p, H p = none → Q (.ref p) (upd H p (.lst (xs ++ zs)))
theorem op_catL : OpR X (binaryOp .Add) (rCatL X.K) := by
  intro pins s σ H x y v u Q I rx ry h
  obtain ⟨l, b, xs, zs, rfl, rfl, hH, hB, hz, q⟩ := h
  cases rx
  cases ry
  obtain ⟨its, r, ⟨⟨c1, d1, t1, sl1⟩, n, e, hc, hd, hs⟩, _⟩ := I.list hH
  obtain ⟨its2, r2, ⟨⟨c2, d2, t2, sl2⟩, n2, e2, hc2, hd2, hs2⟩, _⟩ := I.list hB
  simp only at hc hd hs hc2 hd2 hs2
  subst hc hd hs hc2 hd2 hs2
  have l1 := r.length
  have l2 := r2.length
  refine concat_meets ⟨_, e, rfl⟩ ⟨_, e2, rfl⟩ noFill_list_add seq_list_add PySem.F.slot_list_add PySem.F.entry_list_add (PySem.F.args_list_add_2 _ _) (list_addW l b its.toArray its2.toArray n n2 none none sl1 sl2 (by rw [List.size_toArray, List.size_toArray]; omega)) ⟨e, e2, ?_⟩
  have ea : its.toArray ++ its2.toArray = (its ++ its2).toArray := by simp
  rw [ea]
  exact ⟨.ref _, _, I.lnew (t' := s.toks) (r.append r2) (by rw [List.length_append]; omega), rfl, q _ I.fresh⟩
/-- a + b -/
def rAddA (K : PySem.W.Frag) : R2 := fun x y H Q => rI0 (fun i j => .int (i + j)) x y H Q ∨ rCatF K x y H Q ∨ rCatL K x y H Q ∨ (∃ i j, x = .str i ∧ y = .str j ∧ i.length + j.length ≤ sizeLine ∧ Q (.str (i ++ j)) H)
theorem op_addA : OpR X (binaryOp .Add) (rAddA X.K) := op_add.or (op_catF.or (op_catL.or op_add_str))
/-- t * k of a tuple -/
theorem tuple_mul1 (l : Addr) (items : Array Value) (n : Nat) (dd : Option Addr) (sl : Array (Option Value)) (u : Tok) :
    Meets (Builtin.«tuple.__mul__» ⟨[.ref l, .int 1 u], []⟩) (fun _ R s => s.heap.get? l = some { cls := .type "tuple", dict := dd, data := .seq items n, slots := sl } ∧ R (.ok (.ret (Value.ref l))) s) :=
  .of_wp fun prog w A R s h => by
    obtain ⟨hp, g, d, tk, os⟩ := s
    obtain ⟨hl, h⟩ := h
    have f1 := AutoSeq1.idx_int
    have c0 : (decide ((1 : Int) < -(2 ^ 63)) || decide ((1 : Int) ≥ 2 ^ 63)) = false := by decide
    have c1 : (items.isEmpty || (1 : Int) == 1) = true := by simp
    wp_walk using wpAny_loadPart' hl
    repeat (first
      | (refine wpAny_ite_false (decide_eq_false (by rw [c0]; exact Bool.false_ne_true)) ?_; wp_walk using wpAny_loadPart' hl)
      | (refine wpAny_ite_true (decide_eq_true c1) ?_; wp_walk using wpAny_loadPart' hl))
    exact ⟨_, rfl, h⟩
def rRepT1 (K : PySem.W.Frag) : R2 := fun x y H Q => ∃ l xs, x = .ref l ∧ y = .int 1 ∧ SqT K H l xs ∧ Q (.ref l) H
theorem op_repT1 : OpR X (binaryOp .Mult) (rRepT1 X.K) := by
  intro pins s σ H x y v u Q I rx ry h
  obtain ⟨l, xs, rfl, rfl, hT, q⟩ := h
  cases rx
  obtain ⟨t, rfl⟩ := ry
  obtain ⟨its, r, ⟨⟨cls, dd, data, sl⟩, ho, hc, n, hd⟩, hs⟩ := I.tuple hT
  simp only at hc hd
  subst hc hd
  exact wpAny_binaryOp_repeat_ref (T := "tuple") (U := "int") (by decide) ⟨_, ho, rfl⟩ (fun s' => typeIs_int s' 1 t) noFill_tuple_mul F.fills_int_mul F.slot_int_rmul repeat_tuple F.slot_int_index.lookup
    (call_meets F.slot_int_rmul (typeIs_int s 1 t) F.entry_int_rmul (F.args_int_rmul_2 _ _) (int_rmul_tuple 1 t l its.toArray n dd sl)
      ⟨ho, rfl, ⟨_, ho, rfl⟩, call_meets F.slot_tuple_mul ⟨_, ho, rfl⟩ F.entry_tuple_mul (F.args_tuple_mul_2 _ _) (tuple_mul1 l its.toArray n dd sl t) ⟨ho, ⟨.ref l, H, I, rfl, q⟩⟩⟩)
variable {P : Program} {w : World} {K : PySem.W.Frag} {mg : Str → Option Value} {base : Heap} {N : List Str} {sc : Scope} {lv : Nat} {a b e : Expr} {ta tb te : TE} {pos : Pos}
theorem q_add (C : Ctx X P w K mg base N sc lv) (ha : PE X a ta) (hb : PE X b tb) : PE X (.BinOp a .Add b pos) (tOp (rAddA K) ta tb) := by have := C.hK; subst this; exact pe_op op_addA ha hb
/-- targets: a tuple or a list is unpacked -/
def gSeq (K : PySem.W.Frag) (n : Nat) (t : TGs) : TG := fun v σ H Q => gTup K n t v σ H Q ∨ gUnl K n t v σ H Q
theorem q_seq (C : Ctx X P w K mg base N sc lv) {es : List Expr} {k n : Nat} {t : TGs} (h : PGs X es t) (hn : (assignEach es X.env).length = n := by rfl) (hst : (assignEach es X.env).findIdx? (·.1) = none := by rfl) : PG X (.Tuple es k pos) (gSeq K n t) := by
  have := C.hK; subst this
  refine ⟨fun pins s σ H v u Q I r hw => ?_⟩
  rcases hw with hw | hw
  · exact (pg_tup C.calm h hn hst).run pins s σ H v u Q I r hw
  · exact (pg_unl C.calm h hn hst).run pins s σ H v u Q I r hw
/-- a, b = x, y by a tuple (constants, captured names, other targets) -/
theorem q_asgT (C : Ctx X P w K mg base N sc lv) {ts vs : List Expr} {k k2 : Nat} {p p2 : Pos} {g : TG} (he : PE X (.Tuple vs k2 p2) te) (hg : PG X (.Tuple ts k p) g) (hk : sc.kind = .function := by rfl) (hc : vs.all (foldedForSure 8) = true ∨ vs.all (constantsAlone 8) = false := by first | exact Or.inr rfl | exact Or.inl rfl)
    (hw : swapD sc ts vs = none := by decide +kernel) (hs : swapsWithSole [.Tuple ts k p] (.Tuple vs k2 p2) pos.line X.env = pure false := by rfl) (h1 : (assignEach [.Tuple ts k p] X.env).map (·.2) = [assign (.Tuple ts k p) X.env] := by rfl) :
    PS X (.Assign [.Tuple ts k p] (.Tuple vs k2 p2) pos) (tAsg te g) :=
  ps_asg he hg hs (by rw [swap_of (by rw [C.hsc]; exact hk) hc, C.hsc, hw]) h1
end
/-! ### the text's defs -/
/-- the def st stands under its name -/
def TopF (K : PySem.W.Frag) (mg : Str → Option Value) (x : Str) (st : Stmt) (dvs : List V) (kws : List (Str × V)) : Prop := ∃ (f : Addr) (fd : FuncData), FunS K x st dvs kws f fd ∧ mg x = some (.ref f)
section
variable {P : Program} {w : World} {K : PySem.W.Frag} {mg : Str → Option Value} {base : Heap}
theorem TopF.mk1 {x : Str} {st : Stmt} {kws : List (Str × V)} {f : Addr} {oc : Value} {od an : Option Addr} {osl : Array (Option Value)} {kV doc pm cdv ct : Value} {h : Heap} (X : K.In h) (G : h.Ns mainGlobals mg) (a : PySem.W.nsIn K mainGlobals x = some (some (.ref f)))
    (l : K.lookup f = some ⟨oc, od, .func (PySem.W.fnOf x x (defArgs st) (defBody st) (defScope st) .none kV doc pm an cdv ct), osl⟩) (c : PySem.W.codeIn K cdv x = true) (k : PySem.W.keepIn K (.ref f) = true) (hk : KwdV K kV kws) : TopF K mg x st [] kws :=
  ⟨f, _, ⟨⟨oc, od, .none, kV, doc, pm, an, cdv, ct, osl, rfl, l, c, Or.inl ⟨rfl, rfl⟩, hk⟩, k⟩, PySem.W.mg_of X G a⟩
variable {x : Str} {st : Stmt} {kws : List (Str × V)} {N ps : List Str} {lv n : Nat} {sp : Sp}
/-- from a def's text and its proof to its use: no defaults -/
theorem TopF.use (T : TopF K mg x st [] kws) (ok : ∀ f fd, FunS K x st [] kws f fd → FnG P w K mg base CX0 lv f fd ps sp)
    (hb : ∀ (kV doc pm : Value) (an : Option Addr) (cdv ct : Value) (us : List Value), us.length = ps.length → bindArgs (PySem.W.fnOf x x (defArgs st) (defBody st) (defScope st) .none kV doc pm an cdv ct) ⟨us, []⟩ = pure (ps.zip us)) : Def P w K mg base lv x n [] sp := by
  obtain ⟨f, fd, F, m⟩ := T
  exact ⟨f, fd, ps, [], ok f fd F, m, F.kp, F.bindsN hb, .nil⟩
/-- .. some of them written -/
theorem TopF.useK (T : TopF K mg x st [] kws) (ok : ∀ f fd, FunS K x st [] kws f fd → FnG P w K mg base CX0 lv f fd ps sp) (ks : List Str) (ms : List (Str × V)) (g : {α : Type} → List α → List α → List α → List α) (hk : kws ≠ []) (hms : ∀ q ∈ ms, q ∈ kws)
    (hrel : ∀ {vs mz zs : List V} {us mv ws : List Value}, Vals vs us → Vals mz mv → Vals zs ws → Vals (g vs mz zs) (g us mv ws))
    (hb : ∀ (D : Addr) (doc pm : Value) (an : Option Addr) (cdv ct : Value) (us mv ws : List Value), us.length = n → mv.length = ms.length → ws.length = ks.length →
      KwChain D ((ms.map (·.1)).zip mv) (bindArgs (PySem.W.fnOf x x (defArgs st) (defBody st) (defScope st) .none (.ref D) doc pm an cdv ct) ⟨us, ks.zip ws⟩) (ps.zip (g us mv ws))) : DefN P w K mg base lv x n ks (fun vs zs => g vs (ms.map (·.2)) zs) sp := by
  obtain ⟨f, fd, F, m⟩ := T
  obtain ⟨mv, h⟩ := kb_kw F n ks ms g hk hms hrel hb
  exact ⟨f, fd, ps, _, ok f fd F, m, F.kp, h⟩
/-- the law's promise: a script of at most 63 ints gives True -/
inductive lawR : List W → OH → W → OH → Prop
  | mk {ns : List Int} (h : ns.length ≤ 63) : lawR [.dat (.list (ns.map PyData.int))] [] (.dat (.bool true)) []
theorem law_sp {H : Hp} {a : Addr} {ns : List Int} (h : ns.length ≤ 63) (hr : SqL K H a (ns.map V.int)) : spR K lawR [.ref a] H (fun v _ => v = .bl true) fun _ _ _ => False := by
  refine ⟨fun _ => none, fun _ => True, H, [], [.dat (.list (ns.map PyData.int))], .dat (.bool true), [], ⟨Same.refl _, fun _ _ e => (by cases e), fun _ _ z => (by cases z), List.nodup_nil, fun _ _ _ => Or.inl rfl⟩, .cons (.lst hr ?_) .nil, .mk h, fun v Z' H' _ _ r => by cases r; rfl⟩
  clear h hr
  induction ns with
  | nil => exact .nil
  | cons n ns ih => exact .cons (.int n) ih
/-- the law's end -/
theorem law_end {l : PySem.W.OpenLaw} {q : Program} {loose : List Str} {XP : (Str → Option Value) → Heap → Prop} {YP : World → Heap → Prop} {d : DefRec} {K : Params → PySem.W.Frag} {st : Stmt} {x : Str} {k : Nat} (hn : l.most = some 63) (hdf : d.params.defaults = []) (hname : d.name = "law") (hr : Room k callerA)
    (hY : ∀ (w : World) (h : Heap), YP w h → (K w.params).In h)
    (hb : ∀ (kV doc pm : Value) (an : Option Addr) (cdv ct : Value) (us : List Value), us.length = 1 → bindArgs (PySem.W.fnOf "law" "law" (defArgs st) (defBody st) (defScope st) .none kV doc pm an cdv ct) ⟨us, []⟩ = pure ([x].zip us))
    (F : ∀ (w : World) (mg : Str → Option Value) (h : Heap), (K w.params).In h → h.Ns mainGlobals mg → TopF (K w.params) mg "law" st [] [] ∧ ∀ (base : Heap) (f : Addr) (fd : FuncData), FunS (K w.params) "law" st [] [] f fd → FnG l.prog w (K w.params) mg base CX0 k f fd [x] (spR (K w.params) lawR)) :
    PySem.W.WalkO q loose XP YP l.row.toRowW d [] (fun f vs => PySem.call f vs) :=
  walkG (n := 63) (k := k) (x := x) (CX := fun _ => CX0) (sp := fun w => spR (K w.params) lawR) hn (by decide) hdf hr hY (fun w mg fa h X G hmg => by
    obtain ⟨⟨f, fd, F1, m⟩, F2⟩ := F w mg h X G
    rw [hname, m] at hmg
    cases hmg
    refine ⟨fd, fun s u => ?_, fun base => F2 base _ _ F1⟩
    exact F1.bindsA (ps := [x]) hb s [u] rfl) (fun _ _ _ _ hl _ _ hS => law_sp hl hS) fun _ _ _ _ _ z => z
end
end TB
end
-- TB9
section
set_option Elab.async false
set_option linter.all false
set_option maxRecDepth 100000
set_option maxHeartbeats 4000000
/-! TB9: dicts over data. -/
namespace TB
open PySem L2
/-! ### keys and values -/
def lk {α : Type} (l : List (Key × α)) (k : Key) : Option α := (l.find? fun p => decide (p.1 = k)).map (·.2)
def pt {α : Type} (l : List (Key × α)) (k : Key) (v : α) : List (Key × α) := if (l.any fun p => decide (p.1 = k)) = true then l.map (fun p => if p.1 = k then (p.1, v) else p) else l ++ [(k, v)]
def dkv (l : List (Key × PyData)) : List (PyData × PyData) := l.map fun p => (kD p.1, p.2)
theorem lk_cons {α : Type} (p : Key × α) (l : List (Key × α)) (k : Key) : lk (p :: l) k = if p.1 = k then some p.2 else lk l k := by
  unfold lk
  rw [List.find?_cons]
  by_cases h : p.1 = k <;> simp [h]
theorem valV_cons (p : Key × V) (l : List (Key × V)) (k : Key) : valV (p :: l) k = if p.1 = k then some p.2 else valV l k := by
  by_cases h : p.1 = k
  · rw [valV_pos h, if_pos h]
  · rw [valV_neg h, if_neg h]
/-- related key by key -/
def RelKV {α : Type} (R : α → V → Prop) (l : List (Key × α)) (kvs : List (Key × V)) : Prop := Paired (fun (p : Key × α) (q : Key × V) => p.1 = q.1 ∧ R p.2 q.2) l kvs
theorem RelKV.get {α : Type} {R : α → V → Prop} {k : Key} : ∀ {l : List (Key × α)} {kvs : List (Key × V)}, RelKV R l kvs → ∀ a, lk l k = some a → ∃ v, valV kvs k = some v ∧ R a v
  | [], _, _, a, e => by cases e
  | p :: l, _, h, a, e => by
    cases h with
    | @cons _ q _ kvs h r =>
      rw [lk_cons] at e
      rw [valV_cons, ← h.1]
      split at e
      · rename_i hk
        cases e
        exact ⟨q.2, by rw [if_pos hk], h.2⟩
      · rename_i hk
        rw [if_neg hk]
        exact RelKV.get (show RelKV R l kvs from r) a e
theorem RelKV.none {α : Type} {R : α → V → Prop} {k : Key} : ∀ {l : List (Key × α)} {kvs : List (Key × V)}, RelKV R l kvs → lk l k = none → valV kvs k = none
  | [], _, h, _ => by cases h; rfl
  | p :: l, _, h, e => by
    cases h with
    | @cons _ q _ kvs h r =>
      rw [lk_cons] at e
      rw [valV_cons, ← h.1]
      split at e
      · cases e
      · rename_i hk
        rw [if_neg hk]
        exact RelKV.none (show RelKV R l kvs from r) e
theorem RelKV.isSome {α : Type} {R : α → V → Prop} {k : Key} {l : List (Key × α)} {kvs : List (Key × V)} (h : RelKV R l kvs) : (valV kvs k).isSome = (lk l k).isSome := by
  cases e : lk l k with
  | none => rw [h.none e]; rfl
  | some a =>
    obtain ⟨v, ev, _⟩ := h.get a e
    rw [ev]
    rfl
theorem RelKV.any {α : Type} {R : α → V → Prop} {k : Key} : ∀ {l : List (Key × α)} {kvs : List (Key × V)}, RelKV R l kvs → (kvs.any fun p => decide (p.1 = k)) = (l.any fun p => decide (p.1 = k))
  | [], _, h => by cases h; rfl
  | p :: l, _, h => by
    cases h with
    | @cons _ q _ kvs h r => rw [List.any_cons, List.any_cons, h.1, RelKV.any (show RelKV R l kvs from r)]
theorem RelKV.over {α : Type} {R : α → V → Prop} {k : Key} {a : α} {v : V} (ra : R a v) : ∀ {l : List (Key × α)} {kvs : List (Key × V)}, RelKV R l kvs → RelKV R (l.map fun p => if p.1 = k then (p.1, a) else p) (kvs.map fun p => if p.1 = k then (p.1, v) else p)
  | [], _, h => by cases h; exact .nil
  | p :: l, _, h => by
    cases h with
    | @cons _ q _ kvs h r =>
      refine .cons ?_ (RelKV.over ra (show RelKV R l kvs from r))
      show (if p.1 = k then (p.1, a) else p).1 = (if q.1 = k then (q.1, v) else q).1 ∧ R (if p.1 = k then (p.1, a) else p).2 (if q.1 = k then (q.1, v) else q).2
      rw [← h.1]
      by_cases hk : p.1 = k
      · rw [if_pos hk, if_pos hk]; exact ⟨rfl, ra⟩
      · rw [if_neg hk, if_neg hk]; exact h
theorem RelKV.put {α : Type} {R : α → V → Prop} {k : Key} {a : α} {v : V} (ra : R a v) {l : List (Key × α)} {kvs : List (Key × V)} (h : RelKV R l kvs) : RelKV R (pt l k a) (putK kvs k v) := by
  unfold pt putK
  rw [h.any]
  split
  · exact h.over ra
  · exact paired_append h (.cons ⟨rfl, ra⟩ .nil)
/-! ### d[k], k in d, d[k] = v -/
section
variable {K : PySem.W.Frag} {Γ : Gm} {O O1 O2 O3 : OH} {ta tb te td ty tv : TE} {w : W} {l : List (Key × PyData)} {kws : List (Key × W)} {k : Key} {d : PyData} {p : Addr} {j : Nat}
theorem rep_key {Z : Hp} {y : V} (h : RepW K Z (.dat (kD k)) y) : y = kV k := by
  cases k <;> (cases h; rfl)
end
end TB
end
-- M0
section
set_option Elab.async false
set_option linter.all false
set_option maxRecDepth 100000
/-! M0: fractions as rational numbers. -/
namespace TB
open PySem L2
/-- the fraction as the program holds it -/
@[reducible] def fr (q : Rat) : PyData := .tuple [.int q.num, .int (q.den : Int)]
theorem num_pos {q : Rat} (h : 0 < q) : 0 < q.num := by
  have := (Rat.lt_iff 0 q).mp h
  simpa using this
theorem den_pos (q : Rat) : (0 : Int) < (q.den : Int) := by have := q.den_nz; omega
theorem ne0 {q : Rat} (h : 0 < q) : q ≠ 0 := Rat.ne_of_gt h
theorem div_pos {p q : Rat} (hp : 0 < p) (hq : 0 < q) : 0 < p / q := by rw [Rat.div_def]; exact Rat.mul_pos hp (Rat.inv_pos.mpr hq)
theorem cast_pos {n : Int} (h : 0 < n) : (0 : Rat) < (n : Rat) := Rat.intCast_pos.mpr h
/-- cancelling the greatest common divisor -/
theorem red_num {n m : Int} (hm : 0 < m) : ((n : Rat) / (m : Rat)).num = n / (Int.gcd n m : Int) := by
  rw [← Rat.divInt_eq_div, Rat.num_divInt, Int.sign_eq_one_of_pos hm, Int.one_mul, Int.gcd_comm]
theorem red_den {n m : Int} (hm : 0 < m) : (((n : Rat) / (m : Rat)).den : Int) = m / (Int.gcd n m : Int) := by
  rw [← Rat.divInt_eq_div, Rat.den_divInt, if_neg (by omega), Int.gcd_comm]
  have : (m.natAbs : Int) = m := by omega
  rw [Int.natCast_ediv, this]
theorem add_frac (p q : Rat) : ((p.num * (q.den : Int) + q.num * (p.den : Int) : Int) : Rat) / (((p.den : Int) * (q.den : Int) : Int) : Rat) = p + q := by
  rw [Rat.add_def', Rat.mkRat_eq_div]
  simp [Rat.intCast_natCast]
theorem mul_frac (p q : Rat) : ((p.num * q.num : Int) : Rat) / (((p.den : Int) * (q.den : Int) : Int) : Rat) = p * q := by
  rw [Rat.mul_def', Rat.mkRat_eq_div]
  simp [Rat.intCast_natCast]
theorem num_inv_pos {q : Rat} (h : 0 < q) : (q⁻¹).num = (q.den : Int) := by
  rw [Rat.num_inv, Int.sign_eq_one_of_pos (num_pos h), Int.one_mul]
theorem den_inv_pos {q : Rat} (h : 0 < q) : ((q⁻¹).den : Int) = q.num := by
  have := num_pos h
  rw [Rat.den_inv, if_neg (by omega)]
  omega
theorem gcd_fr (q : Rat) : Int.gcd q.num (q.den : Int) = 1 := by
  have := q.reduced
  unfold Nat.Coprime at this
  rw [← this]
  rfl
theorem eqv_int (i j : Int) : PyData.eqv (.int i) (.int j) = decide (i = j) := by
  unfold PyData.eqv
  exact Bool.beq_eq_decide_eq i j
theorem eqv_fr (p q : Rat) : PyData.eqv (fr p) (fr q) = decide (p = q) := by
  unfold fr
  simp only [PyData.eqv, PyData.eqvAll, Bool.and_true]
  by_cases h : p = q
  · subst h; simp
  · rw [decide_eq_false h]
    have : ¬ (p.num = q.num ∧ (p.den : Int) = (q.den : Int)) := fun ⟨a, b⟩ => h (Rat.ext a (by omega))
    by_cases a : p.num = q.num
    · have b : ¬ (p.den : Int) = (q.den : Int) := fun b => this ⟨a, b⟩
      simp [a]
      omega
    · simp [a]
theorem eqv_fr_self (p : Rat) : PyData.eqv (fr p) (fr p) = true := by rw [eqv_fr]; simp
/-- at most n bits above and below -/
def sz (n : Nat) (q : Rat) : Prop := q.num.natAbs < 2 ^ n ∧ q.den < 2 ^ n
theorem sz.mono {m n : Nat} {q : Rat} (h : sz m q) (hl : m ≤ n) : sz n q :=
  ⟨Nat.lt_of_lt_of_le h.1 (Nat.pow_le_pow_right (by omega) hl), Nat.lt_of_lt_of_le h.2 (Nat.pow_le_pow_right (by omega) hl)⟩
theorem sz.den {n : Nat} {q : Rat} (h : sz n q) : (q.den : Int).natAbs < 2 ^ n := by simpa using h.2
theorem natAbs_ediv_le (a : Int) (b : Nat) : (a / (b : Int)).natAbs ≤ a.natAbs := by
  by_cases hb : b = 0
  · subst hb; simp
  · have h1 : (0 : Int) < (b : Int) := by omega
    rcases Int.le_total 0 a with ha | ha
    · have h2 : a / (b : Int) ≤ a := Int.ediv_le_self _ ha
      have h3 : 0 ≤ a / (b : Int) := Int.ediv_nonneg ha (by omega)
      omega
    · have h2 : a / (b : Int) ≤ 0 := by
        have := Int.ediv_le_ediv h1 ha
        simpa using this
      have h3 : a ≤ a / (b : Int) := by
        rw [Int.le_ediv_iff_mul_le h1]
        have : a * 1 ≥ a * (b : Int) := Int.mul_le_mul_of_nonpos_left ha (by omega)
        omega
      omega
theorem sz_div {n m : Int} {a : Nat} (hm : 0 < m) (h1 : n.natAbs < 2 ^ a) (h2 : m.natAbs < 2 ^ a) : sz a ((n : Rat) / (m : Rat)) := by
  refine ⟨?_, ?_⟩
  · rw [red_num hm]
    exact Nat.lt_of_le_of_lt (natAbs_ediv_le _ _) h1
  · have := red_den (n := n) hm
    have h3 := natAbs_ediv_le m (Int.gcd n m)
    rw [← this] at h3
    simp at h3
    exact Nat.lt_of_le_of_lt h3 h2
theorem wide_add {i j : Int} {a : Nat} (hi : i.natAbs < 2 ^ a) (hj : j.natAbs < 2 ^ a) : (i + j).natAbs < 2 ^ (a + 1) := by
  have h := Int.natAbs_add_le i j
  rw [Nat.pow_succ]
  omega
theorem sz_add {a b : Nat} {p q : Rat} (hp : sz a p) (hq : sz b q) : sz (a + b + 1) (p + q) := by
  rw [← add_frac]
  refine sz_div (Int.mul_pos (den_pos p) (den_pos q)) ?_ ?_
  · refine wide_add (wide_lt hp.1 hq.den) ?_
    rw [Nat.add_comm]
    exact wide_lt hq.1 hp.den
  · exact Nat.lt_of_lt_of_le (wide_lt hp.den hq.den) (Nat.pow_le_pow_right (by omega) (by omega))
theorem sz_mul {a b : Nat} {p q : Rat} (hp : sz a p) (hq : sz b q) : sz (a + b) (p * q) := by
  rw [← mul_frac]
  exact sz_div (Int.mul_pos (den_pos p) (den_pos q)) (wide_lt hp.1 hq.1) (wide_lt hp.den hq.den)
theorem sz_inv {a : Nat} {q : Rat} (h : 0 < q) (hq : sz a q) : sz a q⁻¹ := by
  refine ⟨?_, ?_⟩
  · rw [num_inv_pos h]; exact hq.den
  · have := den_inv_pos h
    have h1 := hq.1
    rw [← this] at h1
    simpa using h1
theorem sz_pos {n : Nat} {q : Rat} (h : sz n q) : 0 < n := by
  cases n with
  | zero => have := h.2; have := q.den_nz; simp at *; omega
  | succ n => omega
/-- one turn of Euclid's loop -/
theorem gcd_turn {a b : Int} (ha : 0 ≤ a) (hb : 0 ≤ b) : Int.gcd b (a % b) = Int.gcd a b := by
  unfold Int.gcd
  rw [Int.natAbs_emod_of_nonneg ha, Nat.gcd_comm b.natAbs, ← Nat.gcd_rec, Nat.gcd_comm]
/-- what may be divided by -/
def lim : Nat := 9000
end TB
end
-- TB7
section
set_option Elab.async false
set_option linter.all false
set_option maxRecDepth 100000
set_option maxHeartbeats 2000000
/-! TB7: the rules in a form that is applied by the shape of the code alone: the answer's kind is told by a relation of its own. -/
namespace TB
open PySem L2 PyProof.Rows
section
variable {X : Cx} {P : Program} {w : World} {K : PySem.W.Frag} {mg : Str → Option Value} {base : Heap} {N : List Str} {sc : Scope} {lv : Nat} {tg e : Expr} {te : TE}
/-- a tuple or a list is walked -/
def iSeq (K : PySem.W.Frag) (tl : TE) : TI := fun σ H R => tl σ H fun x H1 => (∃ a, x = .ref a ∧ (∃ xs, SqL K H1 a xs) ∧ R (Itl K a) H1) ∨ ∃ a, x = .ref a ∧ (∃ xs, SqT K H1 a xs) ∧ R (Itt K a) H1
theorem q_iSeq (C : Ctx X P w K mg base N sc lv) (h : PE X e te) : PI X tg e (iSeq K te) := by
  have := C.hK; subst this
  refine ⟨fun pins s σ H R I hw => ?_⟩
  refine thn (h.run pins s σ H _ I hw) fun v s1 ⟨x, H1, I1, r1, q1⟩ => ?_
  rcases q1 with ⟨a, e, ⟨xs, hq⟩, q⟩ | ⟨a, e, ⟨xs, hq⟩, q⟩
  · subst e
    cases r1
    obtain ⟨its, rv, p, hz⟩ := I1.list hq
    refine wpAny_pyIter_list p.isList ?_
    refine ⟨s1.heap.objs.size, [s1.heap.objs.size], _, _, H1, rfl, I1.kept (t' := s1.toks) fun b o e => Heap.get?_push_of_some _ e, turn_list a _, ⟨_, Heap.get?_push_size _ rfl, rfl, rfl⟩, fun b hb => ?_, q⟩
    have e : b = s1.heap.objs.size := by simpa using hb
    subst e
    exact I1.fpOk (Nat.le_refl _) (I1.hok.fresh (Nat.le_refl _))
  · subst e
    cases r1
    obtain ⟨its, rv, p, hz⟩ := I1.tuple hq
    refine wpAny_pyIter_tuple (show s1.heap.IsTuple a its.toArray from p) ?_
    refine ⟨s1.heap.objs.size, [s1.heap.objs.size], _, _, H1, rfl, I1.kept (t' := s1.toks) fun b o e => Heap.get?_push_of_some _ e, turn_tuple a _, ⟨_, Heap.get?_push_size _ rfl, rfl, rfl⟩, fun b hb => ?_, q⟩
    have e : b = s1.heap.objs.size := by simpa using hb
    subst e
    exact I1.fpOk (Nat.le_refl _) (I1.hok.fresh (Nat.le_refl _))
end
section
variable {K : PySem.W.Frag} {Γ Γ' : Gm} {O O1 O2 O3 : OH} {ta tb te : TE} {w x y : W} {tr tk : TA} {ws zs : List W} {ds es : List PyData} {d : PyData} {i j : Int}
/-- data that are walked -/
inductive SeqD : PyData → List PyData → Prop
  | tup (ds : List PyData) : SeqD (.tuple ds) ds
  | lst (ds : List PyData) : SeqD (.list ds) ds
inductive IxOk (O : OH) : W → W → W → Prop
  | tup {ds : List PyData} {i : Int} {d : PyData} (h : atI ds i = some d) : IxOk O (.dat (.tuple ds)) (.dat (.int i)) (.dat d)
  | lst {ds : List PyData} {i : Int} {d : PyData} (h : atI ds i = some d) : IxOk O (.dat (.list ds)) (.dat (.int i)) (.dat d)
  | str {x : Str} {i : Int} {c : Nat} (hz : x.length ≤ sizeLine) (h : atI x.cps.toList i = some c) : IxOk O (.dat (.str x)) (.dat (.int i)) (.dat (.str ⟨#[c]⟩))
  | own {p : Addr} {ws : List W} {i : Int} {w : W} {k : Nat} (hk : O[k]? = some (p, .lst ws)) (h : atI ws i = some w) : IxOk O (.own p) (.dat (.int i)) w
  | dctS {l : List (Key × PyData)} {x : Str} {d : PyData} (h : lk l (.inr x) = some d) : IxOk O (.dat (.dict (dkv l))) (.dat (.str x)) (.dat d)
  | dctI {l : List (Key × PyData)} {i : Int} {d : PyData} (h : lk l (.inl i) = some d) : IxOk O (.dat (.dict (dkv l))) (.dat (.int i)) (.dat d)
  | ownS {p : Addr} {kws : List (Key × W)} {x : Str} {w : W} {k : Nat} (hk : O[k]? = some (p, .dct kws)) (h : lk kws (.inr x) = some w) : IxOk O (.own p) (.dat (.str x)) w
theorem Ed.inl {t u : TE} (h : Ed K Γ O t w O1) : Ed K Γ O (tOrE t u) w O1 := fun F G Z σ H hf hs Q q => Or.inl (h F G Z σ H hf hs Q q)
theorem Ed.inr {t u : TE} (h : Ed K Γ O u w O1) : Ed K Γ O (tOrE t u) w O1 := fun F G Z σ H hf hs Q q => Or.inr (h F G Z σ H hf hs Q q)
inductive LenOk (O : OH) : W → Int → Prop
  | tup {ds : List PyData} : LenOk O (.dat (.tuple ds)) ds.length
  | lst {ds : List PyData} : LenOk O (.dat (.list ds)) ds.length
  | str {x : Str} (hz : x.length ≤ sizeLine) : LenOk O (.dat (.str x)) x.length
  | own {p : Addr} {ws : List W} {k : Nat} (hk : O[k]? = some (p, .lst ws)) : LenOk O (.own p) ws.length
inductive SlOk (lo hi : Option Int) : PyData → PyData → Prop
  | tup {ds : List PyData} : SlOk lo hi (.tuple ds) (.tuple (cutD ds lo hi))
  | lst {ds : List PyData} : SlOk lo hi (.list ds) (.list (cutD ds lo hi))
theorem LenOk.seq {d : PyData} (h : SeqD d ds) : LenOk O (.dat d) ds.length := by
  cases h with
  | tup => exact .tup
  | lst => exact .lst
theorem IxOk.seq {d e : PyData} {i : Int} (h : SeqD d ds) (he : atI ds i = some e) : IxOk O (.dat d) (.dat (.int i)) (.dat e) := by
  cases h with
  | tup => exact .tup he
  | lst => exact .lst he
theorem SlOk.seq {d : PyData} {lo hi : Option Int} (h : SeqD d ds) : ∃ e, SlOk lo hi d e ∧ SeqD e (cutD ds lo hi) := by
  cases h with
  | tup => exact ⟨_, .tup, .tup _⟩
  | lst => exact ⟨_, .lst, .lst _⟩
end
end TB
end
-- TB8
section
set_option Elab.async false
set_option linter.all false
set_option maxRecDepth 100000
set_option maxHeartbeats 4000000
/-! TB8: repr of nested data. -/
namespace TB
open PySem L2
open PyProof.Rows (IsTup)
/-! ### data in the heap -/
/-- data whose repr fits -/
structure Sh (w k : Nat) (d : PyData) : Prop where
  sh : d.showable = true
  nd : d.hasDict = false
  dp : d.depth ≤ k
  ln : d.shown.length ≤ w
structure ShAll (w k : Nat) (ds : List PyData) : Prop where
  sh : PyData.showableAll ds = true
  nd : PyData.hasDictAll ds = false
  dp : PyData.depthAll ds ≤ k
  ln : ((PyData.shownAll ds).map (·.length)).sum + 2 * ds.length ≤ w
theorem Sh.mono {w k w' k' : Nat} {d : PyData} (h : Sh w k d) (hw : w ≤ w') (hk : k ≤ k') : Sh w' k' d := ⟨h.sh, h.nd, Nat.le_trans h.dp hk, Nat.le_trans h.ln hw⟩
theorem Sh.none {k : Nat} : Sh 4 k .none := ⟨rfl, rfl, Nat.zero_le _, by simp only [PyData.shown]; decide +kernel⟩
theorem Sh.bool {k : Nat} (b : Bool) : Sh 5 k (.bool b) := ⟨rfl, rfl, Nat.zero_le _, by simp only [PyData.shown]; cases b <;> decide +kernel⟩
theorem Sh.int {k m : Nat} {i : Int} (h : i.natAbs.log2 < m) (hm : m ≤ 1920) : Sh (m + 1) k (.int i) := ⟨by simp only [PyData.showable, decide_eq_true_eq]; omega, rfl, Nat.zero_le _, by
  simp only [PyData.shown]
  show (Str.ofString (toString i)).length ≤ _
  rw [ofString_length]
  exact int_text_length_le (by omega) h⟩
theorem ShAll.nil {k : Nat} : ShAll 0 k [] := ⟨rfl, rfl, Nat.zero_le _, by simp [PyData.shownAll]⟩
theorem ShAll.cons {w1 w2 k : Nat} {d : PyData} {ds : List PyData} (h : Sh w1 k d) (r : ShAll w2 k ds) : ShAll (w1 + 2 + w2) k (d :: ds) :=
  ⟨by simp [PyData.showableAll, h.sh, r.sh], by simp [PyData.hasDictAll, h.nd, r.nd], by simp only [PyData.depthAll]; have := h.dp; have := r.dp; omega, by
    have := h.ln; have := r.ln
    simp only [PyData.shownAll, List.map_cons, List.sum_cons, List.length_cons]
    omega⟩
theorem shownAll_len : ∀ ds : List PyData, (PyData.shownAll ds).length = ds.length
  | [] => rfl
  | _ :: ds => by simp [PyData.shownAll, shownAll_len ds]
theorem Sh.list {w k : Nat} {ds : List PyData} (h : ShAll w k ds) : Sh (w + 3) (k + 1) (.list ds) :=
  ⟨by simpa [PyData.showable] using h.sh, by simpa [PyData.hasDict] using h.nd, by simp only [PyData.depth]; have := h.dp; omega, by
    simp only [PyData.shown]
    have h1 := listText_len_le (PyData.shownAll ds)
    have h2 := h.ln
    rw [shownAll_len] at h1
    omega⟩
theorem Sh.tup {w k : Nat} {ds : List PyData} (h : ShAll w k ds) : Sh (w + 3) (k + 1) (.tuple ds) :=
  ⟨by simpa [PyData.showable] using h.sh, by simpa [PyData.hasDict] using h.nd, by simp only [PyData.depth]; have := h.dp; omega, by
    simp only [PyData.shown]
    have h1 := tupleText_len_le (PyData.shownAll ds)
    have h2 := h.ln
    rw [shownAll_len] at h1
    omega⟩
theorem sizeLine_val : sizeLine = 16777216 := by decide
def Shows (d : PyData) : Prop := Sh sizeLine 40 d
theorem log2_lt {i n : Nat} (h : i < 2 ^ n) (hn : 0 < n) : i.log2 < n := by
  by_cases h0 : i = 0
  · subst h0; simpa using hn
  · exact (Nat.log2_lt h0).mpr h
theorem Sh.ok {w k : Nat} {d : PyData} (h : Sh w k d) (hw : w ≤ 16777216) (hk : k ≤ 40) : Shows d := h.mono (by rw [sizeLine_val]; exact hw) hk
end TB
end
-- TBA
section
set_option Elab.async false
set_option linter.all false
set_option maxRecDepth 100000
set_option maxHeartbeats 4000000
/-! TBA: methods of lists; loops over the keys of a dict. -/
namespace TB
open PySem L2 PyProof.Rows
/-! ### extend -/
theorem extend_tupW (l : Addr) (items : Array Value) (n : Nat) (b : Addr) (items2 : Array Value) (n2 : Nat) (dd : Option Addr) (sl : Array (Option Value)) (hs0 : ¬(!items.isEmpty && Builtin.List.listTooLong (items.size + items2.size)) = true) (hs1 : items.size ≤ sizeLine) (hs2 : items.size + items2.size ≤ sizeLine + 1) :
    Meets (Builtin.«list.extend» ⟨[.ref l, .ref b], []⟩) (fun _ R s => (s.heap.get? l = some { cls := .type "list", dict := none, data := .seq items n, slots := #[] } ∧ s.heap.get? b = some { cls := .type "tuple", dict := dd, data := .seq items2 n2, slots := sl }) ∧ R (.ok (.ret Value.none)) { s with heap := s.heap.update l (Obj.mapSeq fun x => x ++ items2), toks := s.toks }) :=
  .of_wp fun prog w A R s h => by
    obtain ⟨hp, g, d, tk, os⟩ := s; obtain ⟨⟨hl, hb⟩, h⟩ := h
    have f1 := PySem.AutoSeq1.idx_int; have f2 := PySem.AutoSeq1.sub_tuple_tuple; have f3 := PySem.AutoSeq1.sub_list_list; have f4 := PySem.AutoSeq1.sub_tuple_list; have f5 := PySem.AutoSeq1.sub_list_tuple
    have hz' : (items ++ items2).size ≤ sizeLine + 1 := by rw [Array.size_append]; exact hs2
    wp_walk using (wpAny_updateSeq hl rfl (hz := hs1) (_hz' := hz')), wpAny_loadPart' hl, wpAny_loadPart' hb; exact ⟨_, rfl, h⟩
theorem extend_lstW (l : Addr) (items : Array Value) (n : Nat) (b : Addr) (items2 : Array Value) (n2 : Nat) (dd : Option Addr) (sl : Array (Option Value)) (hs0 : ¬(!items.isEmpty && Builtin.List.listTooLong (items.size + items2.size)) = true) (hs1 : items.size ≤ sizeLine) (hs2 : items.size + items2.size ≤ sizeLine + 1) :
    Meets (Builtin.«list.extend» ⟨[.ref l, .ref b], []⟩) (fun _ R s => (s.heap.get? l = some { cls := .type "list", dict := none, data := .seq items n, slots := #[] } ∧ s.heap.get? b = some { cls := .type "list", dict := dd, data := .seq items2 n2, slots := sl }) ∧ R (.ok (.ret Value.none)) { s with heap := s.heap.update l (Obj.mapSeq fun x => x ++ items2), toks := s.toks }) :=
  .of_wp fun prog w A R s h => by
    obtain ⟨hp, g, d, tk, os⟩ := s; obtain ⟨⟨hl, hb⟩, h⟩ := h
    have f1 := PySem.AutoSeq1.idx_int; have f2 := PySem.AutoSeq1.sub_tuple_tuple; have f3 := PySem.AutoSeq1.sub_list_list; have f4 := PySem.AutoSeq1.sub_tuple_list; have f5 := PySem.AutoSeq1.sub_list_tuple
    have hz' : (items ++ items2).size ≤ sizeLine + 1 := by rw [Array.size_append]; exact hs2
    wp_walk using (wpAny_updateSeq hl rfl (hz := hs1) (_hz' := hz')), wpAny_loadPart' hl, wpAny_loadPart' hb; exact ⟨_, rfl, h⟩
def rExtA (K : PySem.W.Frag) : V → List V → Hp → VK → Prop := fun x vs H Q => ∃ l b xs zs, x = .ref l ∧ vs = [.ref b] ∧ H l = some (.lst xs) ∧ (SqL K H b zs ∨ SqT K H b zs) ∧ xs.length + zs.length ≤ sizeLine ∧ Q .non (upd H l (.lst (xs ++ zs)))
section
variable {X : Cx}
theorem mt_extA : MtR X "list.extend" (rExtA X.K) := by
  intro pins s σ H x vs v us Q I rx rv h
  obtain ⟨l, b, xs, zs, rfl, rfl, hH, hB, hz, q⟩ := h
  cases rx
  obtain ⟨u, rfl, ru⟩ := rv.one
  cases ru
  obtain ⟨z, its, n, r, hl, e⟩ := I.lstM hH
  have fin : ∀ (its2 : List Value), Vals zs its2 → EP X pins σ Q Value.none { s with heap := s.heap.update l (Obj.mapSeq fun x => x ++ its2.toArray), toks := s.toks } := fun its2 r2 =>
    ⟨.non, _, I.lset (its' := its ++ its2) hH e (by simp) (r.append r2) (by rw [List.length_append]; exact hz), rfl, q⟩
  have long : ∀ its2 : List Value, Vals zs its2 → its.toArray.size + its2.toArray.size ≤ sizeLine := fun its2 r2 => by have := r2.length; rw [List.size_toArray, List.size_toArray]; omega
  have hlong : ∀ its2 : List Value, Vals zs its2 → ¬ (!its.toArray.isEmpty && Builtin.List.listTooLong (its.toArray.size + its2.toArray.size)) = true := fun its2 r2 => by
    rw [notLongL (long its2 r2), Bool.and_false]
    exact Bool.false_ne_true
  rcases hB with hB | hB
  · obtain ⟨its2, r2, ⟨⟨c2, d2, t2, sl2⟩, n2, e2, hc2, hd2, hs2⟩, _⟩ := I.list hB
    simp only at hc2 hd2 hs2
    subst hc2 hd2 hs2
    exact call_meets F.slot_list_extend ⟨_, e, rfl⟩ F.entry_list_extend (F.args_list_extend_2 _ _) (extend_lstW l its.toArray n b its2.toArray n2 none sl2 (hlong its2 r2) (by rw [List.size_toArray]; omega) (Nat.le_succ_of_le (long its2 r2))) ⟨⟨e, e2⟩, fin its2 r2⟩
  · obtain ⟨its2, r2, ⟨⟨c2, d2, t2, sl2⟩, e2, hc2, n2, hs2⟩, _⟩ := I.tuple hB
    simp only at hc2 hs2
    subst hc2 hs2
    exact call_meets F.slot_list_extend ⟨_, e, rfl⟩ F.entry_list_extend (F.args_list_extend_2 _ _) (extend_tupW l its.toArray n b its2.toArray n2 d2 sl2 (hlong its2 r2) (by rw [List.size_toArray]; omega) (Nat.le_succ_of_le (long its2 r2))) ⟨⟨e, e2⟩, fin its2 r2⟩
end
section
variable {X : Cx} {P : Program} {w : World} {K : PySem.W.Frag} {mg : Str → Option Value} {base : Heap} {N : List Str} {sc : Scope} {lv : Nat} {o e : Expr} {es : List Expr} {apos cpos : Pos} {to : TE} {t : TA}
theorem q_append (C : Ctx X P w K mg base N sc lv) (ho : PE X o to) (ha : PA X (e :: es) t) (hbase : attributeBase o "append" X.env (eval o X.env) = eval o X.env := by rfl)
    (hfew : ((backTo cpos (starEach (e :: es) X.env)).all (fun x => !x.1) && (backToKw cpos (keywordEach [] X.env)).all (fun x => x.1.isSome) && decide ((e :: es).length + ([] : List Keyword).length + (if ([] : List Keyword).isEmpty then 0 else 1) < 30)) = true := by rfl) (hline : (apos.endLine == cpos.line) = true := by rfl)
    (hs : starEach (e :: es) X.env = (false, eval e X.env) :: starEach es X.env := by rfl) (hp : (backTo cpos (starEach es X.env)).any (·.1) = false := by rfl) : PE X (.Call (.Attribute o "append" apos) (e :: es) [] cpos) (tBM K "list" rAppend to t) := by
  have := C.hK; subst this
  exact pe_bm F.plainAttrs_list F.slot_list_append F.type_list_append mt_append ho ha hbase hfew hline hs hp
theorem q_extend (C : Ctx X P w K mg base N sc lv) (ho : PE X o to) (ha : PA X (e :: es) t) (hbase : attributeBase o "extend" X.env (eval o X.env) = eval o X.env := by rfl)
    (hfew : ((backTo cpos (starEach (e :: es) X.env)).all (fun x => !x.1) && (backToKw cpos (keywordEach [] X.env)).all (fun x => x.1.isSome) && decide ((e :: es).length + ([] : List Keyword).length + (if ([] : List Keyword).isEmpty then 0 else 1) < 30)) = true := by rfl) (hline : (apos.endLine == cpos.line) = true := by rfl)
    (hs : starEach (e :: es) X.env = (false, eval e X.env) :: starEach es X.env := by rfl) (hp : (backTo cpos (starEach es X.env)).any (·.1) = false := by rfl) : PE X (.Call (.Attribute o "extend" apos) (e :: es) [] cpos) (tBM K "list" (rExtA K) to t) := by
  have := C.hK; subst this
  exact pe_bm F.plainAttrs_list F.slot_list_extend F.type_list_extend mt_extA ho ha hbase hfew hline hs hp
theorem q_pop (C : Ctx X P w K mg base N sc lv) (ho : PE X o to) (hbase : attributeBase o "pop" X.env (eval o X.env) = eval o X.env := by rfl) (hline : (apos.endLine == cpos.line) = true := by rfl) : PE X (.Call (.Attribute o "pop" apos) [] [] cpos) (tBM0 K "list" rPop to) := by
  have := C.hK; subst this
  exact pe_bm0 F.plainAttrs_list F.slot_list_pop F.type_list_pop mt_pop ho hbase hline
end
/-! ### a loop whose walker is known -/
/-! ### a dict is locked -/
structure SameR (H H' : Hp) : Prop where
  rd : ∀ (a : Addr) (u : HO), (∀ o v, u ≠ .frz o v) → Rd H a u → Rd H' a u
  tp : ∀ (a : Addr) (o : Obj) (xs : List V), H a = some (.frz o (.tup xs)) → H' a = some (.frz o (.tup xs))
section
variable {K : PySem.W.Frag} {H H' : Hp}
theorem SameR.l {a : Addr} {xs : List V} (s : SameR H H') (h : SqL K H a xs) : SqL K H' a xs := h.imp (s.rd _ _ fun _ _ z => nomatch z) id
theorem SameR.t {a : Addr} {xs : List V} (s : SameR H H') (h : SqT K H a xs) : SqT K H' a xs := h.imp (s.rd _ _ fun _ _ z => nomatch z) id
theorem SameR.f {a : Addr} {xs : List V} (s : SameR H H') (h : SqF K H a xs) : SqF K H' a xs := h.imp (fun ⟨o, h, d⟩ => ⟨o, s.tp _ _ _ h, d⟩) id
mutual
theorem Rp.monoR (s : SameR H H') : ∀ {d : PyData} {v : V}, Rp K H v d → Rp K H' v d
  | .none, _, h => by cases h; exact .non
  | .bool b, _, h => by cases h; exact .bl b
  | .int i, _, h => by cases h; exact .int i
  | .str x, _, h => by cases h; exact .str x
  | .list ds, _, h => by
    cases h with
    | lst h r => exact .lst (s.l h) (RpAll.monoR s r)
  | .tuple ds, _, h => by
    cases h with
    | tup h r => exact .tup (s.f h) (RpAll.monoR s r)
  | .dict ds, _, h => by
    cases h with
    | dct h r => exact .dct (s.rd _ _ (fun _ _ z => nomatch z) h) (RpKV.monoR s r)
theorem RpAll.monoR (s : SameR H H') : ∀ {ds : List PyData} {vs : List V}, RpAll K H vs ds → RpAll K H' vs ds
  | [], _, h => by cases h; exact .nil
  | d :: ds, _, h => by
    cases h with
    | cons h r => exact .cons (Rp.monoR s h) (RpAll.monoR s r)
theorem RpKV.monoR (s : SameR H H') : ∀ {ds : List (PyData × PyData)} {vs : List (Key × V)}, RpKV K H vs ds → RpKV K H' vs ds
  | [], _, h => by cases h; exact .nil
  | d :: ds, _, h => by
    cases h with
    | cons h r => exact .cons (Rp.monoR s h) (RpKV.monoR s r)
end
theorem RepW.monoR (s : SameR H H') {w : W} {v : V} (h : RepW K H w v) : RepW K H' w v := by
  cases w with
  | dat d => exact Rp.monoR s h
  | own p => exact h
  | pr ds => obtain ⟨a, xs, e, h, r⟩ := h; exact ⟨a, xs, e, s.t h, RpAll.monoR s r⟩
theorem RepMO.monoR (s : SameR H H') {mo : MO} {ho : HO} (h : RepMO K H mo ho) : RepMO K H' mo ho := by
  cases mo with
  | lst ws =>
    cases ho with
    | lst vs => exact Paired.mapP (show Paired _ _ _ from h) fun _ _ r => RepW.monoR s r
    | _ => exact h.elim
  | dct kws =>
    cases ho with
    | dK kvs => exact Paired.mapP (show Paired _ _ _ from h) fun _ _ r => ⟨r.1, RepW.monoR s r.2⟩
    | _ => exact h.elim
variable {F Z Z' : Hp} {G : Addr → Prop} {O O' : OH} {a : Addr} {o : Obj} {kvs : List (Key × V)}
theorem sameR_lock (h : Z a = some (.dK kvs)) : SameR Z (upd Z a (.frz o (.dK kvs))) := ⟨fun b u hu r => by
  by_cases e : b = a
  · subst e
    rcases r with r | ⟨o', r⟩
    · rw [h] at r; cases r; exact Or.inr ⟨o, upd_same⟩
    · rw [h] at r; cases r
  · rcases r with r | ⟨o', r⟩
    · exact Or.inl (by rw [upd_ne e]; exact r)
    · exact Or.inr ⟨o', by rw [upd_ne e]; exact r⟩, fun b o' xs e => by
  rw [upd_ne (fun hb => by rw [hb, h] at e; cases e)]; exact e⟩
def lkF (F : Hp) (a : Addr) (u : HO) : Hp := fun b => if b = a then (F a).map (fun _ => u) else F b
theorem lkF_none {u : HO} {b : Addr} : lkF F a u b = none ↔ F b = none := by
  unfold lkF
  by_cases e : b = a
  · subst e
    rw [if_pos rfl]
    cases F b <;> simp
  · rw [if_neg e]
theorem HFit.lock (h : HFit K F G Z O H) (hz : Z a = some (.dK kvs)) : HFit K (lkF F a (.frz o (.dK kvs))) G (upd Z a (.frz o (.dK kvs))) O (upd H a (.frz o (.dK kvs))) := by
  refine ⟨fun b u e => ?_, fun b u e => ?_, fun p mo hp => ?_, h.nd, fun b u e => ?_⟩
  · by_cases hb : b = a
    · subst hb; rw [upd_same] at e ⊢; exact e
    · rw [upd_ne hb] at e ⊢; exact h.ex b u e
  · unfold lkF at e
    by_cases hb : b = a
    · subst hb
      rw [if_pos rfl] at e
      rw [upd_same]
      cases eF : F b with
      | none => rw [eF] at e; cases e
      | some z => rw [eF] at e; exact e
    · rw [if_neg hb] at e
      rw [upd_ne hb]; exact h.fr b u e
  · obtain ⟨z1, f1, ho, e1, r1⟩ := h.ow p mo hp
    have hne : p ≠ a := fun e => by subst e; rw [hz] at z1; cases z1
    exact ⟨by rw [upd_ne hne]; exact z1, lkF_none.mpr f1, ho, by rw [upd_ne hne]; exact e1, RepMO.monoR (sameR_lock hz) r1⟩
  · have : ∃ u', Z b = some u' := by
      by_cases hb : b = a
      · subst hb; exact ⟨_, hz⟩
      · rw [upd_ne hb] at e; exact ⟨u, e⟩
    obtain ⟨u', e'⟩ := this
    exact (h.zc b u' e').imp lkF_none.mpr id
end
/-! ### for k in d -/
end TB
end
-- TBB
section
set_option Elab.async false
set_option linter.all false
set_option maxRecDepth 100000
set_option maxHeartbeats 4000000
/-! TBB: texts compared, zip, texts walked, x[i] = v, dict comprehensions. -/
namespace TB
open PySem L2 PyProof.Rows RZ
/-! ### < and <= of texts -/
def ltS (x y : Str) : Bool := decide (x.cps.toList < y.cps.toList)
section
variable {K : PySem.W.Frag} {Γ : Gm} {O O1 O2 O3 : OH} {ta tb te to ti tv : TE} {w : W} {tr : TA} {ws : List W} {ds es : List PyData}
/-! ### zip -/
/-! ### a text walked -/
def signs (x : Str) : List PyData := x.cps.toList.map fun c => .str ⟨#[c]⟩
/-! ### dict comprehensions -/
theorem En.frame {A : OH} {t : TE} {mo : MO} {O' : OH} (h : En K Γ O t mo O') : En K Γ (A ++ O) t mo (A ++ O') := fun F G Z σ H hf hs Q q =>
  h _ _ Z σ H hf.aside hs Q fun p Z' H' s h' => q p Z' H' s ((hf.back s h').perm List.perm_middle)
theorem pt_len {α : Type} (l : List (Key × α)) (k : Key) (a : α) : (pt l k a).length ≤ l.length + 1 := by
  unfold pt
  split
  · rw [List.length_map]; omega
  · simp
end
/-! ### the rules by name -/
section
variable {X : Cx} {P : Program} {w : World} {K : PySem.W.Frag} {mg : Str → Option Value} {base : Heap} {N : List Str} {sc : Scope} {lv : Nat} {pos p : Pos} {e e2 : Expr} {ta : TA} {te : TE}
theorem q_zip (C : Ctx X P w K mg base N sc lv) {tpos : Pos} {elts : List Expr} {kk : Nat} (hm : mg "zip" = none) (ha : PA X [e, e2] ta) (hg : GK sc "zip" := by rfl) (hs : starEach [e, e2] X.env = (false, eval e X.env) :: starEach [e2] X.env := by rfl) (hpl : (backTo pos (starEach [e2] X.env)).any (·.1) = false := by rfl) :
    PI X (.Tuple elts kk tpos) (.Call (.Name "zip" p) [e, e2] [] pos) (iZipA K ta) := by
  have := C.hK; subst this
  exact pi_zipA (C.gl hg) (by rw [C.hmg]; exact hm) ha hs hpl
/-- x[i] = v -/
def tSetI (to ti tv : TE) : TS := tOrS (tAsg tv (gSub to ti rSetL)) (sDPut to ti tv)
theorem q_setI (C : Ctx X P w K mg base N sc lv) {o i value : Expr} {pos' : Pos} {to ti tv : TE} (ho : PE X o to) (hi : PE X i ti) (hv : PE X value tv) (hs : swapsWith value (some (.Subscript o i pos')) pos.line X.env = pure false := by rfl)
    (hA : ∀ v, assign (.Subscript o i pos') X.env v = (do let ov ← holding [v] (eval o X.env); let iv ← holding [v, ov] (eval i X.env); standAt pos'; holding [v, ov, iv] (setItem ov iv v); release [v, ov, iv] []) := by intro _; rfl) (hS : swapsWithSole [.Subscript o i pos'] value pos.line X.env = pure false := by rfl) : PS X (.Assign [.Subscript o i pos'] value pos) (tSetI to ti tv) := by
  have hu := C.hu
  exact ps_or (ps_asg hv (pg_sub ho hi set_list hA) hS) (ps_dput (by omega) ho hi hv hs)
variable {kx vx tg iter : Expr} {ifs : List Expr} {scope : Scope} {wi : TI} {g : TG} {tt : TT} {tk tv : TE}
theorem q_dc (C : Ctx X P w K mg base N sc lv) (own : List (Str × Nat)) {vs : List Nat} (hi : PI X tg iter wi) (hg : ∀ X', Ctx X' P w K mg base N (relS scope sc) lv → PG X' tg g) (ht : ∀ X', Ctx X' P w K mg base N (relS scope sc) lv → PTs X' ifs tt) (hk : ∀ X', Ctx X' P w K mg base N (relS scope sc) lv → PE X' kx tk)
    (he : ∀ X', Ctx X' P w K mg base N (relS scope sc) lv → PE X' vx tv) (ok : blkC N sc scope own = true := by decide +kernel) (hv : own.map (·.2) = vs := by rfl) (hs : ∀ x, foldedSetIterable iter X.env x = pure x := by intro _; rfl) :
    PE X (.DictComp kx vx [⟨tg, iter, ifs, 0⟩] scope pos) (tDc wi g tt tk tv vs) := by
  subst hv
  exact pe_dc C.calm (by rw [C.hN]; exact C.nd) hi (by rw [C.hN, C.hsc]; exact blkOk_by ok) (fun s H c cl fp => hg _ (C.blk s H scope c cl fp)) (fun s H c cl fp => ht _ (C.blk s H scope c cl fp)) (fun s H c cl fp => hk _ (C.blk s H scope c cl fp)) (fun s H c cl fp => he _ (C.blk s H scope c cl fp)) hs
end
section
variable {K : PySem.W.Frag} {Γ : Gm} {O O1 O2 O3 : OH} {to ti tv : TE} {w : W} {ws : List W} {D : Dn} {p : Addr} {j k : Nat}
theorem Rn.inl {t u : TS} (h : Rn K Γ O t D) : Rn K Γ O (tOrS t u) D := fun F G Z σ H hf hs E he => Or.inl (h F G Z σ H hf hs E he)
theorem Rn.inr {t u : TS} (h : Rn K Γ O u D) : Rn K Γ O (tOrS t u) D := fun F G Z σ H hf hs E he => Or.inr (h F G Z σ H hf hs E he)
end
end TB
end
-- TBC
section
set_option Elab.async false
set_option linter.all false
set_option maxRecDepth 100000
set_option maxHeartbeats 4000000
/-! TBC: comprehensions with two fors; dict(pairs). -/
namespace TB
open PySem L2 PyProof.Rows
section
variable {X : Cx} {P : Program} {w : World} {K : PySem.W.Frag} {mg : Str → Option Value} {base : Heap} {N : List Str} {sc : Scope} {lv : Nat} {pos p : Pos} {elt tg iter tg1 iter1 : Expr} {ifs ifs1 : List Expr} {scope : Scope} {wi wi1 : TI} {g g1 : TG} {tt tt1 : TT} {te : TE}
theorem q_lc2 (C : Ctx X P w K mg base N sc lv) (own : List (Str × Nat)) (vs1 : List Nat) {vs : List Nat} (hi : PI X tg iter wi) (hg : ∀ X', Ctx X' P w K mg base N (relS scope sc) lv → PG X' tg g) (ht : ∀ X', Ctx X' P w K mg base N (relS scope sc) lv → PTs X' ifs tt)
    (hi1 : ∀ X', Ctx X' P w K mg base N (relS scope sc) lv → PI X' tg1 iter1 wi1) (hg1 : ∀ X', Ctx X' P w K mg base N (relS scope sc) lv → PG X' tg1 g1) (ht1 : ∀ X', Ctx X' P w K mg base N (relS scope sc) lv → PTs X' ifs1 tt1) (he : ∀ X', Ctx X' P w K mg base N (relS scope sc) lv → PE X' elt te)
    (ok : blkC N sc scope own = true := by decide +kernel) (hv : own.map (·.2) = vs := by rfl) (hv1 : ∀ i ∈ vs1, i ∈ vs := by decide) (hs : ∀ x, foldedSetIterable iter X.env x = pure x := by intro _; rfl) (hs1 : ∀ env x, foldedSetIterable iter1 env x = pure x := by intro _ _; rfl) :
    PE X (.ListComp elt [⟨tg, iter, ifs, 0⟩, ⟨tg1, iter1, ifs1, 0⟩] scope pos) (tLc2 wi g tt wi1 g1 tt1 te vs vs1) := by
  subst hv
  exact pe_lc2 C.calm (by rw [C.hN]; exact C.nd) hi (by rw [C.hN, C.hsc]; exact blkOk_by ok) hv1 (fun s H c cl fp => hg _ (C.blk s H scope c cl fp)) (fun s H c cl fp => ht _ (C.blk s H scope c cl fp)) (fun s H c cl fp => hi1 _ (C.blk s H scope c cl fp)) (fun s H c cl fp => hg1 _ (C.blk s H scope c cl fp))
    (fun s H c cl fp => ht1 _ (C.blk s H scope c cl fp)) (fun s H c cl fp => he _ (C.blk s H scope c cl fp)) hs hs1
end
section
variable {K : PySem.W.Frag} {Γ : Gm} {O O1 O2 : OH} {te : TE} {ws : List W}
theorem Ei.frame {A : OH} {wi : TI} (h : Ei K Γ O wi ws anyO O1) : Ei K Γ (A ++ O) wi ws anyO (A ++ O1) := fun F G Z σ H hf hs R q =>
  h _ _ Z σ H hf.aside hs R fun J Z' H' s h' wk => q J Z' H' s (hf.back s h') wk
end
end TB
end
-- V0
section
set_option Elab.async false
set_option linter.all false
set_option maxRecDepth 100000
set_option maxHeartbeats 2000000
/-! V0: values of an evaluator: data, and references into a store of objects that may change. -/
namespace TV
open PySem L2
open TB (SqF)
inductive Va where
  | none | bool (b : Bool) | int (i : Int) | str (x : Str)
  | tup (vs : List Va) | lst (vs : List Va) | dct (kvs : List (Key × Va))
  | ref (n : Nat)
instance : Inhabited Va := ⟨.none⟩
inductive Ob where
  | lst (vs : List Va)
  | dct (kvs : List (Key × Va))
  /-- no longer followed -/
  | dead
abbrev So := List Ob
abbrev Ga := List (Option Va)
/-- a list that does not change: locked, or the script as it stands in the written part -/
def LstF (K : PySem.W.Frag) (H : Hp) (a : Addr) (xs : List V) : Prop :=
  (∃ o, H a = some (.frz o (.lst xs))) ∨ ∃ (its : Array Value) (n : Nat), K.lookup a = some { cls := .type "list", data := .seq its n } ∧ its.size ≤ sizeLine ∧ Vals xs its.toList
/-- .. or may change -/
def LstR (K : PySem.W.Frag) (H : Hp) (a : Addr) (xs : List V) : Prop :=
  Rd H a (.lst xs) ∨ ∃ (its : Array Value) (n : Nat), K.lookup a = some { cls := .type "list", data := .seq its n } ∧ its.size ≤ sizeLine ∧ Vals xs its.toList
theorem LstF.r {K : PySem.W.Frag} {H : Hp} {a : Addr} {xs : List V} (h : LstF K H a xs) : LstR K H a xs := h.imp (fun ⟨o, h⟩ => Or.inr ⟨o, h⟩) id
theorem LstR.l {K : PySem.W.Frag} {H : Hp} {a : Addr} {xs : List V} (h : LstR K H a xs) : SqL K H a xs := h.imp id fun ⟨its, n, h1, h2, h3⟩ => ⟨_, its, n, h1, rfl, rfl, rfl, h2, h3⟩
theorem LstF.l {K : PySem.W.Frag} {H : Hp} {a : Addr} {xs : List V} (h : LstF K H a xs) : SqL K H a xs := h.r.l
mutual
inductive Rep (K : PySem.W.Frag) (m : List Addr) (H : Hp) : Va → V → Prop
  | non : Rep K m H .none .non
  | bl (b : Bool) : Rep K m H (.bool b) (.bl b)
  | int (i : Int) : Rep K m H (.int i) (.int i)
  | str (x : Str) : Rep K m H (.str x) (.str x)
  | tup {a : Addr} {xs : List V} {vs : List Va} (h : SqF K H a xs) (r : Reps K m H vs xs) : Rep K m H (.tup vs) (.ref a)
  | lst {a : Addr} {xs : List V} {vs : List Va} (h : LstF K H a xs) (r : Reps K m H vs xs) : Rep K m H (.lst vs) (.ref a)
  | dct {a : Addr} {kvs : List (Key × V)} {ds : List (Key × Va)} {o : Obj} (h : H a = some (.frz o (.dK kvs))) (r : RepKV K m H ds kvs) : Rep K m H (.dct ds) (.ref a)
  | ref {n : Nat} {p : Addr} (h : m[n]? = some p) : Rep K m H (.ref n) (.ref p)
inductive Reps (K : PySem.W.Frag) (m : List Addr) (H : Hp) : List Va → List V → Prop
  | nil : Reps K m H [] []
  | cons {v : Va} {vs : List Va} {x : V} {xs : List V} (h : Rep K m H v x) (r : Reps K m H vs xs) : Reps K m H (v :: vs) (x :: xs)
inductive RepKV (K : PySem.W.Frag) (m : List Addr) (H : Hp) : List (Key × Va) → List (Key × V) → Prop
  | nil : RepKV K m H [] []
  | cons {k : Key} {v : Va} {vs : List (Key × Va)} {x : V} {xs : List (Key × V)} (h : Rep K m H v x) (r : RepKV K m H vs xs) : RepKV K m H ((k, v) :: vs) ((k, x) :: xs)
end
/-- what values lean on is kept: places, what is locked -/
structure Kp (m : List Addr) (H : Hp) (m' : List Addr) (H' : Hp) : Prop where
  ix : m <+: m'
  fz : ∀ a o u, H a = some (.frz o u) → H' a = some (.frz o u)
/-- from m, H to m', H': besides, new places are new, what no place holds stays -/
structure Ext (m : List Addr) (H : Hp) (m' : List Addr) (H' : Hp) : Prop extends Kp m H m' H' where
  nw : ∀ p, p ∈ m' → p ∈ m ∨ H p = none
  kp : ∀ a o, a ∉ m → H a = some o → H' a = some o
section
variable {K : PySem.W.Frag} {m m' : List Addr} {H H' : Hp}
theorem Kp.refl (m : List Addr) (H : Hp) : Kp m H m H := ⟨List.prefix_refl _, fun _ _ _ h => h⟩
theorem Kp.trans {m2 : List Addr} {H2 : Hp} (a : Kp m H m' H') (b : Kp m' H' m2 H2) : Kp m H m2 H2 := ⟨a.ix.trans b.ix, fun x o u h => b.fz x o u (a.fz x o u h)⟩
theorem Ext.refl (m : List Addr) (H : Hp) : Ext m H m H := ⟨Kp.refl m H, fun _ h => Or.inl h, fun _ _ _ h => h⟩
theorem Ext.trans {m2 : List Addr} {H2 : Hp} (a : Ext m H m' H') (b : Ext m' H' m2 H2) : Ext m H m2 H2 := by
  refine ⟨⟨a.ix.trans b.ix, fun x o u h => b.fz x o u (a.fz x o u h)⟩, fun p hp => ?_, fun x o n e => ?_⟩
  · rcases b.nw p hp with h | h
    · exact a.nw p h
    · by_cases hm : p ∈ m
      · exact Or.inl hm
      · cases q : H p with
        | none => exact Or.inr rfl
        | some o => rw [a.kp p o hm q] at h; cases h
  · refine b.kp x o (fun hx => ?_) (a.kp x o n e)
    rcases a.nw x hx with h | h
    · exact n h
    · rw [e] at h; cases h
theorem Ext.notin (a : Ext m H m' H') {x : Addr} {o : HO} (e : H x = some o) (n : x ∉ m) : x ∉ m' := fun hx => by
  rcases a.nw x hx with h | h
  · exact n h
  · rw [e] at h; cases h
theorem Kp.at (a : Kp m H m' H') {n : Nat} {p : Addr} (e : m[n]? = some p) : m'[n]? = some p := by
  obtain ⟨t, rfl⟩ := a.ix
  rw [List.getElem?_append_left (List.getElem?_eq_some_iff.mp e).1]
  exact e
theorem Kp.lf (s : Kp m H m' H') {a : Addr} {xs : List V} (h : LstF K H a xs) : LstF K H' a xs := h.imp (fun ⟨o, h⟩ => ⟨o, s.fz a o _ h⟩) id
theorem Kp.f (s : Kp m H m' H') {a : Addr} {xs : List V} (h : SqF K H a xs) : SqF K H' a xs := by
  rcases h with ⟨o, h, d⟩ | h
  · exact Or.inl ⟨o, s.fz a o _ h, d⟩
  · exact Or.inr h
mutual
theorem Rep.mono (s : Kp m H m' H') : ∀ {v : Va} {x : V}, Rep K m H v x → Rep K m' H' v x
  | .none, _, h => by cases h; exact .non
  | .bool b, _, h => by cases h; exact .bl b
  | .int i, _, h => by cases h; exact .int i
  | .str x, _, h => by cases h; exact .str x
  | .tup vs, _, h => by
    cases h with
    | tup h r => exact .tup (s.f h) (Reps.mono s r)
  | .lst vs, _, h => by
    cases h with
    | lst h r => exact .lst (s.lf h) (Reps.mono s r)
  | .dct vs, _, h => by
    cases h with
    | dct h r => exact .dct (s.fz _ _ _ h) (RepKV.mono s r)
  | .ref n, _, h => by
    cases h with
    | ref h => exact .ref (s.at h)
theorem Reps.mono (s : Kp m H m' H') : ∀ {vs : List Va} {xs : List V}, Reps K m H vs xs → Reps K m' H' vs xs
  | [], _, h => by cases h; exact .nil
  | v :: vs, _, h => by
    cases h with
    | cons h r => exact .cons (Rep.mono s h) (Reps.mono s r)
theorem RepKV.mono (s : Kp m H m' H') : ∀ {vs : List (Key × Va)} {xs : List (Key × V)}, RepKV K m H vs xs → RepKV K m' H' vs xs
  | [], _, h => by cases h; exact .nil
  | (k, v) :: vs, _, h => by
    cases h with
    | cons h r => exact .cons (Rep.mono s h) (RepKV.mono s r)
end
theorem Rep.ext (s : Ext m H m' H') {v : Va} {x : V} (h : Rep K m H v x) : Rep K m' H' v x := h.mono s.toKp
theorem Reps.ext (s : Ext m H m' H') {v : List Va} {x : List V} (h : Reps K m H v x) : Reps K m' H' v x := h.mono s.toKp
theorem RepKV.ext (s : Ext m H m' H') {v : List (Key × Va)} {x : List (Key × V)} (h : RepKV K m H v x) : RepKV K m' H' v x := h.mono s.toKp
theorem Reps.length {vs : List Va} {xs : List V} (h : Reps K m H vs xs) : vs.length = xs.length := by
  induction vs generalizing xs with
  | nil => cases h; rfl
  | cons d ds ih => cases h with | cons h r => simp [ih r]
theorem Reps.get {vs : List Va} {xs : List V} {i : Nat} {v : Va} (h : Reps K m H vs xs) (e : vs[i]? = some v) : ∃ x, xs[i]? = some x ∧ Rep K m H v x := by
  induction vs generalizing xs i with
  | nil => simp at e
  | cons d0 ds ih =>
    cases h with
    | cons h r =>
      cases i with
      | zero => simp at e; subst e; exact ⟨_, rfl, h⟩
      | succ i => simpa using ih r (by simpa using e)
theorem Reps.append {vs us : List Va} {xs ys : List V} (h : Reps K m H vs xs) (h' : Reps K m H us ys) : Reps K m H (vs ++ us) (xs ++ ys) := by
  induction vs generalizing xs with
  | nil => cases h; exact h'
  | cons d ds ih => cases h with | cons h r => exact .cons h (ih r)
theorem Reps.take {vs : List Va} {xs : List V} (n : Nat) (h : Reps K m H vs xs) : Reps K m H (vs.take n) (xs.take n) := by
  induction vs generalizing xs n with
  | nil => cases h; simp; exact .nil
  | cons d ds ih =>
    cases h with
    | cons h r =>
      cases n with
      | zero => exact .nil
      | succ n => exact .cons h (ih n r)
theorem Reps.drop {vs : List Va} {xs : List V} (n : Nat) (h : Reps K m H vs xs) : Reps K m H (vs.drop n) (xs.drop n) := by
  induction vs generalizing xs n with
  | nil => cases h; simp; exact .nil
  | cons d ds ih =>
    cases h with
    | cons h r =>
      cases n with
      | zero => exact .cons h r
      | succ n => exact ih n r
theorem Reps.reverse {vs : List Va} {xs : List V} (h : Reps K m H vs xs) : Reps K m H vs.reverse xs.reverse := by
  induction vs generalizing xs with
  | nil => cases h; exact .nil
  | cons d ds ih => cases h with | cons h r => simpa using (ih r).append (.cons h .nil)
theorem Reps.rep {vs : List Va} {xs : List V} (h : Reps K m H vs xs) : ∀ n : Nat, Reps K m H (List.replicate n vs).flatten (List.replicate n xs).flatten
  | 0 => .nil
  | n + 1 => by simpa [List.replicate_succ] using h.append (h.rep n)
theorem Reps.set {vs : List Va} {xs : List V} {v : Va} {x : V} (h : Reps K m H vs xs) (r : Rep K m H v x) : ∀ i, Reps K m H (vs.set i v) (xs.set i x) := by
  induction vs generalizing xs with
  | nil => cases h; intro i; exact .nil
  | cons d ds ih =>
    cases h with
    | cons h0 r0 =>
      intro i
      cases i with
      | zero => exact .cons r r0
      | succ i => exact .cons h0 (ih r0 i)
theorem Reps.erase {vs : List Va} {xs : List V} (h : Reps K m H vs xs) : ∀ i, Reps K m H (vs.eraseIdx i) (xs.eraseIdx i) := by
  induction vs generalizing xs with
  | nil => cases h; intro i; exact .nil
  | cons d ds ih =>
    cases h with
    | cons h0 r0 =>
      intro i
      cases i with
      | zero => exact r0
      | succ i => exact .cons h0 (ih r0 i)
theorem Reps.dropLast {vs : List Va} {xs : List V} (h : Reps K m H vs xs) : Reps K m H vs.dropLast xs.dropLast := by
  rw [List.dropLast_eq_take, List.dropLast_eq_take, h.length]
  exact h.take _
/-! ### the store -/
def RepOb (K : PySem.W.Frag) (m : List Addr) (H : Hp) : Ob → Option HO → Prop
  | .lst vs, some (.lst xs) => Reps K m H vs xs
  | .dct ds, some (.dK kvs) => RepKV K m H ds kvs
  | .dead, _ => True
  | _, _ => False
theorem RepOb.mono (s : Kp m H m' H') {b : Ob} {ho : Option HO} (h : RepOb K m H b ho) : RepOb K m' H' b ho := by
  cases b with
  | lst vs =>
    cases ho with
    | none => exact h.elim
    | some ho =>
      cases ho with
      | lst xs => exact Reps.mono s h
      | _ => exact h.elim
  | dct vs =>
    cases ho with
    | none => exact h.elim
    | some ho =>
      cases ho with
      | dK xs => exact RepKV.mono s h
      | _ => exact h.elim
  | dead => trivial
structure Fit (K : PySem.W.Frag) (m : List Addr) (O : So) (H : Hp) : Prop where
  len : m.length = O.length
  nd : m.Nodup
  us : ∀ p ∈ m, ∃ o, H p = some o
  ob : ∀ (n : Nat) (p : Addr) (b : Ob), m[n]? = some p → O[n]? = some b → RepOb K m H b (H p)
def SFit (K : PySem.W.Frag) (m : List Addr) (H : Hp) (Γ : Ga) (σ : L2.St) : Prop :=
  Paired (fun (w : Option Va) (v : Option V) => ∀ x, w = some x → ∃ y, v = some y ∧ Rep K m H x y) Γ σ
theorem SFit.mono {Γ : Ga} {σ : L2.St} (s : Kp m H m' H') (h : SFit K m H Γ σ) : SFit K m' H' Γ σ :=
  Paired.mapP h fun _ _ r x e => let ⟨y, e1, r1⟩ := r x e; ⟨y, e1, Rep.mono s r1⟩
theorem SFit.ext {Γ : Ga} {σ : L2.St} (s : Ext m H m' H') (h : SFit K m H Γ σ) : SFit K m' H' Γ σ := h.mono s.toKp
theorem SFit.get {Γ : Ga} {σ : L2.St} {i : Nat} {w : Va} (h : SFit K m H Γ σ) (e : Γ[i]? = some (some w)) : ∃ v, σ[i]? = some (some v) ∧ Rep K m H w v := by
  obtain ⟨b, h1, h2⟩ := TB.paired_get h e
  obtain ⟨y, rfl, r⟩ := h2 w rfl
  exact ⟨y, h1, r⟩
theorem SFit.set {Γ : Ga} {σ : L2.St} {w : Va} {v : V} (i : Nat) (h : SFit K m H Γ σ) (r : Rep K m H w v) : SFit K m H (Γ.set i (some w)) (σ.set i (some v)) :=
  TB.paired_set (fun x e => by cases e; exact ⟨v, rfl, r⟩) i h
theorem SFit.wipe1 {Γ : Ga} {σ : L2.St} (i : Nat) (h : SFit K m H Γ σ) (x : Option V) : SFit K m H (Γ.set i Option.none) (σ.set i x) :=
  TB.paired_set (fun x e => by cases e) i h
/-! changes of the heap -/
/-- what is not locked is laid or changed -/
def unl : Option HO → Prop
  | some (.frz _ _) => False
  | _ => True
theorem Kp.put {p : Addr} {u : HO} (n : unl (H p)) : Kp m H m (upd H p u) :=
  ⟨List.prefix_refl _, fun a o v e => by
    rw [upd_ne (fun z => by rw [z] at e; rw [e] at n; exact n)]; exact e⟩
theorem Ext.write {p : Addr} {u : HO} (n : unl (H p)) (hp : p ∈ m) : Ext m H m (upd H p u) :=
  ⟨Kp.put n, fun _ h => Or.inl h, fun a o hn e => by rw [upd_ne (fun z => hn (by rw [z]; exact hp))]; exact e⟩
theorem Ext.lay {p : Addr} {u : HO} (n : H p = none) : Ext m H m (upd H p u) :=
  ⟨Kp.put (by rw [n]; trivial), fun _ h => Or.inl h, fun a o hn e => by rw [upd_ne (ne_of_none e n)]; exact e⟩
/-- what is new since H is changed -/
theorem Ext.putAt {p : Addr} {u : HO} (x : Ext m H m' H') (n : H p = none) (hu : unl (H' p)) : Ext m H m' (upd H' p u) :=
  ⟨⟨x.ix, fun a o v e => by
    rw [upd_ne (fun z => by rw [z, n] at e; cases e)]; exact x.fz a o v e⟩, x.nw, fun a o hn e => by rw [upd_ne (ne_of_none e n)]; exact x.kp a o hn e⟩
/-- .. is followed -/
theorem Ext.trackAt {p : Addr} (x : Ext m H m' H') (n : H p = none) : Ext m H (m' ++ [p]) H' :=
  ⟨⟨x.ix.trans (List.prefix_append _ _), x.fz⟩, fun q hq => by
    rcases List.mem_append.mp hq with h | h
    · exact x.nw q h
    · simp at h; subst h; exact Or.inr n, x.kp⟩
theorem Kp.track (m : List Addr) (H : Hp) (p : Addr) : Kp m H (m ++ [p]) H := ⟨List.prefix_append _ _, fun _ _ _ h => h⟩
theorem Fit.notin {O : So} (f : Fit K m O H) {p : Addr} (n : H p = none) : p ∉ m := fun hm => by
  obtain ⟨o, e⟩ := f.us p hm
  rw [n] at e; cases e
theorem Fit.put {O : So} (f : Fit K m O H) {p : Addr} {u : HO} (n : unl (H p)) (hp : p ∉ m) : Fit K m O (upd H p u) := by
  have ne : ∀ q, q ∈ m → q ≠ p := fun q hq z => hp (by rw [← z]; exact hq)
  refine ⟨f.len, f.nd, fun q hq => ?_, fun i q b e1 e2 => ?_⟩
  · rw [upd_ne (ne q hq)]; exact f.us q hq
  · rw [upd_ne (ne q (List.mem_of_getElem? e1))]
    exact (f.ob i q b e1 e2).mono (Kp.put n)
theorem Fit.lay {O : So} (f : Fit K m O H) {p : Addr} {u : HO} (n : H p = none) : Fit K m O (upd H p u) := f.put (by rw [n]; trivial) (f.notin n)
theorem Fit.track {O : So} (f : Fit K m O H) {p : Addr} {ho : HO} {b : Ob} (e : H p = some ho) (n : p ∉ m) (hb : RepOb K m H b (some ho)) : Fit K (m ++ [p]) (O ++ [b]) H := by
  have k := Kp.track m H p
  refine ⟨by simp [f.len], ?_, fun q hq => ?_, fun i q c e1 e2 => ?_⟩
  · rw [List.nodup_append]
    exact ⟨f.nd, by simp, fun x hx y hy z => by simp at hy; subst hy; subst z; exact n hx⟩
  · rcases List.mem_append.mp hq with h | h
    · exact f.us q h
    · simp at h; subst h; exact ⟨ho, e⟩
  · by_cases hi : i < m.length
    · rw [List.getElem?_append_left hi] at e1
      rw [List.getElem?_append_left (by rw [← f.len]; exact hi)] at e2
      exact (f.ob i q c e1 e2).mono k
    · have hi' : i = m.length := by
        have := (List.getElem?_eq_some_iff.mp e1).1
        simp at this; omega
      subst hi'
      rw [f.len] at e2
      simp at e1 e2
      subst e1; subst e2
      rw [e]
      exact hb.mono k
theorem Fit.unl {O : So} (f : Fit K m O H) {n : Nat} {p : Addr} {b : Ob} (e : m[n]? = some p) (h : O[n]? = some b) (hb : b ≠ .dead) : unl (H p) := by
  have r := f.ob n p b e h
  cases q : H p with
  | none => trivial
  | some u =>
    rw [q] at r
    cases u with
    | frz o u =>
      cases b with
      | dead => exact absurd rfl hb
      | lst vs => exact r.elim
      | dct vs => exact r.elim
    | _ => trivial
/-- an object of the store is changed -/
theorem Fit.write {O : So} (f : Fit K m O H) {n : Nat} {p : Addr} {u : HO} {b : Ob} (e : m[n]? = some p) (hu : TV.unl (H p)) (r : RepOb K m H b (some u)) : Fit K m (O.set n b) (upd H p u) := by
  have hp : p ∈ m := List.mem_of_getElem? e
  have k : Kp m H m (upd H p u) := Kp.put hu
  refine ⟨by simp [f.len], f.nd, fun q hq => ?_, fun i q c e1 e2 => ?_⟩
  · by_cases hqp : q = p
    · subst hqp; exact ⟨u, upd_same⟩
    · rw [upd_ne hqp]; exact f.us q hq
  rw [List.getElem?_set] at e2
  by_cases hn : n = i
  · subst hn
    rw [e] at e1; cases e1
    have hl : n < O.length := by rw [← f.len]; exact (List.getElem?_eq_some_iff.mp e).1
    rw [if_pos rfl, if_pos hl] at e2
    cases e2
    rw [upd_same]
    exact r.mono k
  · rw [if_neg hn] at e2
    have r3 := f.ob i q c e1 e2
    have hq : q ≠ p := fun z => by
      subst z
      obtain ⟨l1, g1⟩ := List.getElem?_eq_some_iff.mp e
      obtain ⟨l2, g2⟩ := List.getElem?_eq_some_iff.mp e1
      exact hn ((List.getElem_inj f.nd).mp (g1.trans g2.symm))
    rw [upd_ne hq]; exact r3.mono k
theorem Ext.none {O : So} (x : Ext m H m' H') (f : Fit K m' O H') {p : Addr} (n : H' p = none) : H p = none := by
  by_cases hm : p ∈ m
  · exact absurd (x.ix.subset hm) (f.notin n)
  · cases q : H p with
    | none => rfl
    | some o => rw [x.kp p o hm q] at n; cases n
theorem Fit.lstAt {O : So} (f : Fit K m O H) {n : Nat} {p : Addr} {vs : List Va} (e : m[n]? = some p) (h : O[n]? = some (.lst vs)) : ∃ xs, H p = some (.lst xs) ∧ Reps K m H vs xs := by
  have r := f.ob n p _ e h
  cases q : H p with
  | none => rw [q] at r; exact r.elim
  | some ho =>
    rw [q] at r
    cases ho with
    | lst xs => exact ⟨xs, rfl, r⟩
    | _ => exact r.elim
theorem Fit.dctAt {O : So} (f : Fit K m O H) {n : Nat} {p : Addr} {ds : List (Key × Va)} (e : m[n]? = some p) (h : O[n]? = some (.dct ds)) : ∃ kvs, H p = some (.dK kvs) ∧ RepKV K m H ds kvs := by
  have r := f.ob n p _ e h
  cases q : H p with
  | none => rw [q] at r; exact r.elim
  | some ho =>
    rw [q] at r
    cases ho with
    | dK xs => exact ⟨xs, rfl, r⟩
    | _ => exact r.elim
end
end TV
end
-- V1
section
set_option Elab.async false
set_option linter.all false
set_option maxRecDepth 100000
set_option maxHeartbeats 2000000
/-! V1: expressions. What an expression does is a function of the slots and the store; the rules say that the code does it. -/
namespace TV
open PySem L2
open TB (SqF NewT Ctx FCtx GK lk pt RelKV)
abbrev Ex := Ga → So → Option (Va × So)
abbrev Tx := Ga → So → Option (Bool × So)
abbrev Ax := Ga → So → Option (List Va × So)
abbrev Ox := Ga → So → Option (Option Int × So)
/-! ### what the operations do -/
def asL (O : So) : Va → Option (List Va)
  | .lst vs => some vs
  | .ref n => match O[n]? with
    | some (.lst vs) => some vs
    | _ => none
  | _ => none
def asQ (O : So) : Va → Option (List Va)
  | .tup vs => some vs
  | .lst vs => some vs
  | .ref n => match O[n]? with
    | some (.lst vs) => some vs
    | _ => none
  | _ => none
def asD (O : So) : Va → Option (List (Key × Va))
  | .dct vs => some vs
  | .ref n => match O[n]? with
    | some (.dct vs) => some vs
    | _ => none
  | _ => none
def keyOf : Va → Option Key
  | .int i => some (.inl i)
  | .str x => some (.inr x)
  | _ => none
def mVar (i : Nat) : Ex := fun Γ O => match Γ[i]? with
  | some (some v) => some (v, O)
  | _ => none
def mC (v : Va) : Ex := fun _ O => some (v, O)
def mOp (f : So → Va → Va → Option Va) (a b : Ex) : Ex := fun Γ O => match a Γ O with
  | some (x, O1) => match b Γ O1 with
    | some (y, O2) => match f O2 x y with
      | some v => some (v, O2)
      | none => none
    | none => none
  | none => none
def mUn (f : So → Va → Option Va) (a : Ex) : Ex := fun Γ O => match a Γ O with
  | some (x, O1) => match f O1 x with
    | some v => some (v, O1)
    | none => none
  | none => none
def aNil : Ax := fun _ O => some ([], O)
def aCons (a : Ex) (as : Ax) : Ax := fun Γ O => match a Γ O with
  | some (x, O1) => match as Γ O1 with
    | some (xs, O2) => some (x :: xs, O2)
    | none => none
  | none => none
/-- a built-in of its arguments -/
def mCB (f : So → List Va → Option Va) (as : Ax) : Ex := fun Γ O => match as Γ O with
  | some (xs, O1) => match f O1 xs with
    | some v => some (v, O1)
    | none => none
  | none => none
def mTup (as : Ax) : Ex := fun Γ O => match as Γ O with
  | some (xs, O1) => if xs.length ≤ sizeLine then some (.tup xs, O1) else none
  | none => none
def mLst (as : Ax) : Ex := fun Γ O => match as Γ O with
  | some (xs, O1) => if xs.length ≤ sizeLine then some (.lst xs, O1) else none
  | none => none
/-- a new object is followed -/
def mTr (a : Ex) : Ex := fun Γ O => match a Γ O with
  | some (.lst vs, O1) => some (.ref O1.length, O1 ++ [.lst vs])
  | some (.dct vs, O1) => some (.ref O1.length, O1 ++ [.dct vs])
  | _ => none
/-! ### what is shown of the code -/
def TEm (K : PySem.W.Frag) (me : Ex) : TE := fun σ H Q => ∃ m Γ O r O', Fit K m O H ∧ SFit K m H Γ σ ∧ me Γ O = some (r, O') ∧ ∀ m' H' v, Ext m H m' H' → Fit K m' O' H' → Rep K m' H' r v → Q v H'
/-- a value, or a new list or dict that is not locked yet -/
inductive Raw (K : PySem.W.Frag) (H0 : Hp) (m : List Addr) (H : Hp) : Va → V → Prop
  | lst {p : Addr} {xs : List V} {vs : List Va} (h : H p = some (.lst xs)) (h0 : H0 p = none) (n : p ∉ m) (r : Reps K m H vs xs) : Raw K H0 m H (.lst vs) (.ref p)
  | dct {p : Addr} {xs : List (Key × V)} {vs : List (Key × Va)} (h : H p = some (.dK xs)) (h0 : H0 p = none) (n : p ∉ m) (r : RepKV K m H vs xs) : Raw K H0 m H (.dct vs) (.ref p)
theorem Raw.since {K : PySem.W.Frag} {m0 m1 m : List Addr} {H0 H1 H : Hp} {O1 : So} {v : Va} {u : V} (x : Ext m0 H0 m1 H1) (f : Fit K m1 O1 H1) (r : Raw K H1 m H v u) : Raw K H0 m H v u := by
  cases r with
  | lst h h0 n r => exact .lst h (x.none f h0) n r
  | dct h h0 n r => exact .dct h (x.none f h0) n r
def TFm (K : PySem.W.Frag) (me : Ex) : TE := fun σ H Q => ∃ m Γ O r O', Fit K m O H ∧ SFit K m H Γ σ ∧ me Γ O = some (r, O') ∧ ∀ m' H' v, Ext m H m' H' → Fit K m' O' H' → Raw K H m' H' r v → Q v H'
def TRm (K : PySem.W.Frag) (me : Ex) : TE := fun σ H Q => ∃ m Γ O r O', Fit K m O H ∧ SFit K m H Γ σ ∧ me Γ O = some (r, O') ∧ ∀ m' H' v, Ext m H m' H' → Fit K m' O' H' → Rep K m' H' r v ∨ Raw K H m' H' r v → Q v H'
def TTm (K : PySem.W.Frag) (mt : Tx) : TT := fun σ H Q => ∃ m Γ O r O', Fit K m O H ∧ SFit K m H Γ σ ∧ mt Γ O = some (r, O') ∧ ∀ m' H', Ext m H m' H' → Fit K m' O' H' → Q r H'
def TAm (K : PySem.W.Frag) (ma : Ax) : TA := fun σ H Q => ∃ m Γ O r O', Fit K m O H ∧ SFit K m H Γ σ ∧ ma Γ O = some (r, O') ∧ ∀ m' H' v, Ext m H m' H' → Fit K m' O' H' → Reps K m' H' r v → Q v H'
def TOm (K : PySem.W.Frag) (mo : Ox) : TO := fun σ H Q => ∃ m Γ O r O', Fit K m O H ∧ SFit K m H Γ σ ∧ mo Γ O = some (r, O') ∧ ∀ m' H', Ext m H m' H' → Fit K m' O' H' → Q r H'
theorem _root_.L2.PE.weak {X : Cx} {e : Expr} {t t' : TE} (h : PE X e t) (k : ∀ σ H Q, t' σ H Q → t σ H Q) : PE X e t' := ⟨fun pins s σ H Q I w => h.run pins s σ H Q I (k σ H Q w)⟩
theorem _root_.L2.PT.weak {X : Cx} {e : Expr} {t t' : TT} (h : PT X e t) (k : ∀ σ H Q, t' σ H Q → t σ H Q) : PT X e t' := ⟨fun pins s σ H Q I w => h.run pins s σ H Q I (k σ H Q w)⟩
theorem _root_.L2.PW.weak {X : Cx} {e : Expr} {t t' : TT} (h : PW X e t) (k : ∀ σ H Q, t' σ H Q → t σ H Q) : PW X e t' := ⟨fun a b c σ H Q I w => h.run a b c σ H Q I (k σ H Q w)⟩
theorem _root_.L2.PA.weak {X : Cx} {e : List Expr} {t t' : TA} (h : PA X e t) (k : ∀ σ H Q, t' σ H Q → t σ H Q) : PA X e t' := ⟨fun a pins s σ H Q I w => h.run a pins s σ H Q I (k σ H Q w)⟩
theorem _root_.L2.PS.weak {X : Cx} {e : Stmt} {t t' : TS} (h : PS X e t) (k : ∀ D σ H, t' D σ H → t D σ H) : PS X e t' := ⟨fun pins s σ H D I w => h.run pins s σ H D I (k D σ H w)⟩
theorem _root_.L2.PSs.weak {X : Cx} {e : List Stmt} {t t' : TS} (h : PSs X e t) (k : ∀ D σ H, t' D σ H → t D σ H) : PSs X e t' := ⟨fun pins s σ H D I w => h.run pins s σ H D I (k D σ H w)⟩
section
variable {K : PySem.W.Frag} {m m' : List Addr} {H H' : Hp} {O O1 O2 : So} {v w : Va} {u : V}
/-! reading -/
theorem rep_L {vs : List Va} (f : Fit K m O H) (e : asL O v = some vs) (r : Rep K m H v u) : ∃ a xs, u = .ref a ∧ LstR K H a xs ∧ Reps K m H vs xs := by
  cases r with
  | lst h r => cases e; exact ⟨_, _, rfl, h.r, r⟩
  | @ref n p h =>
    simp only [asL] at e
    split at e
    · rename_i ws hn
      cases e
      obtain ⟨xs, h1, h2⟩ := f.lstAt h hn
      exact ⟨p, xs, rfl, Or.inl (Or.inl h1), h2⟩
    · cases e
  | _ => cases e
theorem rep_Q {vs : List Va} (f : Fit K m O H) (e : asQ O v = some vs) (r : Rep K m H v u) : ∃ a xs, u = .ref a ∧ (SqL K H a xs ∨ SqT K H a xs) ∧ Reps K m H vs xs := by
  cases r with
  | tup h r => cases e; exact ⟨_, _, rfl, Or.inr h.t, r⟩
  | lst h r => cases e; exact ⟨_, _, rfl, Or.inl h.l, r⟩
  | @ref n p h =>
    simp only [asQ] at e
    split at e
    · rename_i ws hn
      cases e
      obtain ⟨xs, h1, h2⟩ := f.lstAt h hn
      exact ⟨p, xs, rfl, Or.inl (Or.inl (Or.inl h1)), h2⟩
    · cases e
  | _ => cases e
theorem RepKV.rel {ds : List (Key × Va)} {kvs : List (Key × V)} (h : RepKV K m H ds kvs) : RelKV (Rep K m H) ds kvs := by
  induction ds generalizing kvs with
  | nil => cases h; exact .nil
  | cons d ds ih => cases h with | cons h r => exact .cons ⟨rfl, h⟩ (ih r)
theorem RepKV.of {ds : List (Key × Va)} {kvs : List (Key × V)} (h : RelKV (Rep K m H) ds kvs) : RepKV K m H ds kvs := by
  induction ds generalizing kvs with
  | nil => cases h; exact .nil
  | cons d ds ih =>
    obtain ⟨k, v⟩ := d
    cases h with
    | @cons _ q _ kvs h r =>
      obtain ⟨k', x⟩ := q
      obtain ⟨h1, h2⟩ := h
      simp only at h1 h2
      subst h1
      exact .cons h2 (ih r)
theorem rep_D {ds : List (Key × Va)} (f : Fit K m O H) (e : asD O v = some ds) (r : Rep K m H v u) : ∃ a kvs, u = .ref a ∧ Rd H a (.dK kvs) ∧ RepKV K m H ds kvs := by
  cases r with
  | dct h r => cases e; exact ⟨_, _, rfl, Or.inr ⟨_, h⟩, r⟩
  | @ref n p h =>
    simp only [asD] at e
    split at e
    · rename_i ws hn
      cases e
      obtain ⟨xs, h1, h2⟩ := f.dctAt h hn
      exact ⟨p, xs, rfl, Or.inl h1, h2⟩
    · cases e
  | _ => cases e
theorem rep_key {k : Key} (e : keyOf v = some k) (r : Rep K m H v u) : u = kV k := by
  cases r <;> cases e <;> rfl
/-! constants, variables -/
theorem t_var {i : Nat} : ∀ σ H Q, TEm K (mVar i) σ H Q → tVar i σ H Q := by
  rintro σ H Q ⟨m, Γ, O, r, O', f, s, e, k⟩
  unfold mVar at e
  split at e
  · rename_i v hv
    cases e
    obtain ⟨x, hx, rx⟩ := s.get hv
    exact ⟨x, hx, k m H x (Ext.refl _ _) f rx⟩
  · cases e
theorem t_c {v : Va} {x : V} (h : ∀ m H, Rep K m H v x) : ∀ σ H Q, TEm K (mC v) σ H Q → tC x σ H Q := by
  rintro σ H Q ⟨m, Γ, O, r, O', f, s, e, k⟩
  cases e
  exact k m H x (Ext.refl _ _) f (h m H)
theorem t_op {f : So → Va → Va → Option Va} {r : R2} {ma mb : Ex} (hr : ∀ m O H x y u v w Q, Fit K m O H → Rep K m H x u → Rep K m H y v → f O x y = some w → (∀ m' H' z, Ext m H m' H' → Fit K m' O H' → Rep K m' H' w z → Q z H') → r u v H Q) :
    ∀ σ H Q, TEm K (mOp f ma mb) σ H Q → tOp r (TEm K ma) (TEm K mb) σ H Q := by
  rintro σ H Q ⟨m, Γ, O, w, O', ft, s, e, k⟩
  unfold mOp at e
  split at e
  · rename_i x O1 h1
    split at e
    · rename_i y O2 h2
      split at e
      · rename_i v h3
        obtain ⟨rfl, rfl⟩ := Prod.mk.inj (Option.some.inj e)
        refine ⟨m, Γ, O, x, O1, ft, s, h1, fun m1 H1 u1 x1 f1 r1 => ⟨m1, Γ, O1, y, O2, f1, s.ext x1, h2, fun m2 H2 u2 x2 f2 r2 => ?_⟩⟩
        exact hr m2 O2 H2 x y u1 u2 _ Q f2 (r1.ext x2) r2 h3 fun m3 H3 z x3 f3 r3 => k m3 H3 z ((x1.trans x2).trans x3) f3 r3
      · cases e
    · cases e
  · cases e
/-- .. that may give a new list -/
theorem t_opR {f : So → Va → Va → Option Va} {r : R2} {ma mb : Ex} (hr : ∀ m O H x y u v w Q, Fit K m O H → Rep K m H x u → Rep K m H y v → f O x y = some w → (∀ m' H' z, Ext m H m' H' → Fit K m' O H' → Rep K m' H' w z ∨ Raw K H m' H' w z → Q z H') → r u v H Q) :
    ∀ σ H Q, TRm K (mOp f ma mb) σ H Q → tOp r (TEm K ma) (TEm K mb) σ H Q := by
  rintro σ H Q ⟨m, Γ, O, w, O', ft, s, e, k⟩
  unfold mOp at e
  split at e
  · rename_i x O1 h1
    split at e
    · rename_i y O2 h2
      split at e
      · rename_i v h3
        obtain ⟨rfl, rfl⟩ := Prod.mk.inj (Option.some.inj e)
        refine ⟨m, Γ, O, x, O1, ft, s, h1, fun m1 H1 u1 x1 f1 r1 => ⟨m1, Γ, O1, y, O2, f1, s.ext x1, h2, fun m2 H2 u2 x2 f2 r2 => ?_⟩⟩
        exact hr m2 O2 H2 x y u1 u2 _ Q f2 (r1.ext x2) r2 h3 fun m3 H3 z x3 f3 r3 => k m3 H3 z ((x1.trans x2).trans x3) f3 (r3.imp id (Raw.since (x1.trans x2) f2))
      · cases e
    · cases e
  · cases e
theorem t_nil : ∀ σ H Q, TAm K aNil σ H Q → tNil σ H Q := by
  rintro σ H Q ⟨m, Γ, O, w, O', ft, s, e, k⟩
  cases e
  exact k m H [] (Ext.refl _ _) ft .nil
theorem t_cons {ma : Ex} {mb : Ax} : ∀ σ H Q, TAm K (aCons ma mb) σ H Q → tCons (TEm K ma) (TAm K mb) σ H Q := by
  rintro σ H Q ⟨m, Γ, O, w, O', ft, s, e, k⟩
  unfold aCons at e
  split at e
  · rename_i x O1 h1
    split at e
    · rename_i xs O2 h2
      obtain ⟨rfl, rfl⟩ := Prod.mk.inj (Option.some.inj e)
      exact ⟨m, Γ, O, x, O1, ft, s, h1, fun m1 H1 u1 x1 f1 r1 => ⟨m1, Γ, O1, xs, O2, f1, s.ext x1, h2, fun m2 H2 u2 x2 f2 r2 => k m2 H2 _ (x1.trans x2) f2 (.cons (r1.ext x2) r2)⟩⟩
    · cases e
  · cases e
theorem t_cb {f : So → List Va → Option Va} {r : List V → Hp → VK → Prop} {ma : Ax} (hr : ∀ m O H xs us w Q, Fit K m O H → Reps K m H xs us → f O xs = some w → (∀ m' H' z, Ext m H m' H' → Fit K m' O H' → Rep K m' H' w z → Q z H') → r us H Q) :
    ∀ σ H Q, TEm K (mCB f ma) σ H Q → tCB r (TAm K ma) σ H Q := by
  rintro σ H Q ⟨m, Γ, O, w, O', ft, s, e, k⟩
  unfold mCB at e
  split at e
  · rename_i x O1 h1
    split at e
    · rename_i v h3
      obtain ⟨rfl, rfl⟩ := Prod.mk.inj (Option.some.inj e)
      exact ⟨m, Γ, O, x, O1, ft, s, h1, fun m1 H1 u1 x1 f1 r1 => hr m1 O1 H1 x u1 _ Q f1 r1 h3 fun m3 H3 z x3 f3 r3 => k m3 H3 z (x1.trans x3) f3 r3⟩
    · cases e
  · cases e
/-- .. that gives a new list -/
theorem t_cbF {f : So → List Va → Option Va} {r : List V → Hp → VK → Prop} {ma : Ax} (hr : ∀ m O H xs us w Q, Fit K m O H → Reps K m H xs us → f O xs = some w → (∀ m' H' z, Ext m H m' H' → Fit K m' O H' → Raw K H m' H' w z → Q z H') → r us H Q) :
    ∀ σ H Q, TFm K (mCB f ma) σ H Q → tCB r (TAm K ma) σ H Q := by
  rintro σ H Q ⟨m, Γ, O, w, O', ft, s, e, k⟩
  unfold mCB at e
  split at e
  · rename_i x O1 h1
    split at e
    · rename_i v h3
      obtain ⟨rfl, rfl⟩ := Prod.mk.inj (Option.some.inj e)
      exact ⟨m, Γ, O, x, O1, ft, s, h1, fun m1 H1 u1 x1 f1 r1 => hr m1 O1 H1 x u1 _ Q f1 r1 h3 fun m3 H3 z x3 f3 r3 => k m3 H3 z (x1.trans x3) f3 (r3.since x1 f1)⟩
    · cases e
  · cases e
/-- displays -/
theorem Raw.new {vs : List Va} {xs : List V} {p : Addr} (f : Fit K m O H) (n : H p = none) (r : Reps K m H vs xs) : Ext m H m (upd H p (.lst xs)) ∧ Fit K m O (upd H p (.lst xs)) ∧ Raw K H m (upd H p (.lst xs)) (.lst vs) (.ref p) :=
  ⟨Ext.lay n, f.lay n, .lst upd_same n (f.notin n) (r.ext (Ext.lay n))⟩
theorem Raw.newD {vs : List (Key × Va)} {xs : List (Key × V)} {p : Addr} (f : Fit K m O H) (n : H p = none) (r : RepKV K m H vs xs) : Ext m H m (upd H p (.dK xs)) ∧ Fit K m O (upd H p (.dK xs)) ∧ Raw K H m (upd H p (.dK xs)) (.dct vs) (.ref p) :=
  ⟨Ext.lay n, f.lay n, .dct upd_same n (f.notin n) (r.ext (Ext.lay n))⟩
theorem newT {vs : List Va} {xs : List V} {Q : VK} (f : Fit K m O H) (r : Reps K m H vs xs) (k : ∀ m' H' z, Ext m H m' H' → Fit K m' O H' → Rep K m' H' (.tup vs) z → Q z H') : NewT H xs Q := fun p o n d =>
  k m _ (.ref p) (Ext.lay n) (f.lay n) (.tup (SqF.of upd_same d) (r.ext (Ext.lay n)))
theorem t_tup {ma : Ax} : ∀ σ H Q, TEm K (mTup ma) σ H Q → TB.tTupF (TAm K ma) σ H Q := by
  rintro σ H Q ⟨m, Γ, O, w, O', ft, s, e, k⟩
  unfold mTup at e
  split at e
  · rename_i xs O1 h1
    split at e
    · rename_i hz
      obtain ⟨rfl, rfl⟩ := Prod.mk.inj (Option.some.inj e)
      exact ⟨m, Γ, O, xs, O1, ft, s, h1, fun m1 H1 us x1 f1 r1 => ⟨by rw [← r1.length]; exact hz, newT f1 r1 fun m2 H2 z x2 f2 r2 => k m2 H2 z (x1.trans x2) f2 r2⟩⟩
    · cases e
  · cases e
theorem t_lst {ma : Ax} : ∀ σ H Q, TFm K (mLst ma) σ H Q → tLst (TAm K ma) σ H Q := by
  rintro σ H Q ⟨m, Γ, O, w, O', ft, s, e, k⟩
  unfold mLst at e
  split at e
  · rename_i xs O1 h1
    split at e
    · rename_i hz
      obtain ⟨rfl, rfl⟩ := Prod.mk.inj (Option.some.inj e)
      exact ⟨m, Γ, O, xs, O1, ft, s, h1, fun m1 H1 us x1 f1 r1 => ⟨by rw [← r1.length]; exact hz, fun p np => by
        obtain ⟨a, b, c⟩ := Raw.new f1 np r1
        exact k m1 _ (.ref p) (x1.trans a) b (c.since x1 f1)⟩⟩
    · cases e
  · cases e
/-! new objects: locked, or followed -/
theorem TFm.r {me : Ex} : ∀ σ H Q, TRm K me σ H Q → TFm K me σ H Q := fun σ H Q ⟨m, Γ, O, r, O', f, s, e, k⟩ => ⟨m, Γ, O, r, O', f, s, e, fun m' H' v a b c => k m' H' v a b (Or.inr c)⟩
theorem TEm.r {me : Ex} : ∀ σ H Q, TRm K me σ H Q → TEm K me σ H Q := fun σ H Q ⟨m, Γ, O, r, O', f, s, e, k⟩ => ⟨m, Γ, O, r, O', f, s, e, fun m' H' v a b c => k m' H' v a b (Or.inl c)⟩
end
section
variable {X : Cx} {K : PySem.W.Frag} {e : Expr} {me : Ex}
theorem d_lk (h : PE X e (TRm K me)) : PE X e (TEm K me) := by
  refine ⟨fun pins s σ H Q I w => ?_⟩
  obtain ⟨m, Γ, O, r, O', f, sl, ev, k⟩ := w
  refine thn (h.run pins s σ H (fun v H' => ∃ m', Ext m H m' H' ∧ Fit K m' O' H' ∧ (Rep K m' H' r v ∨ Raw K H m' H' r v)) I ⟨m, Γ, O, r, O', f, sl, ev, fun m' H' v a b c => ⟨m', a, b, c⟩⟩) fun u s' q => ?_
  obtain ⟨v, H', I', rv, m', x, f', c⟩ := q
  rcases c with c | c
  · exact ⟨v, H', I', rv, k m' H' v x f' c⟩
  · cases c with
    | @lst p xs vs hp h0 n rs =>
      obtain ⟨od, I2⟩ := I'.lock hp trivial
      have un : unl (H' p) := by rw [hp]; trivial
      exact ⟨.ref p, _, I2, rv, k m' _ _ (x.putAt h0 un) (f'.put un n) (.lst (Or.inl ⟨_, upd_same⟩) (rs.mono (Kp.put un)))⟩
    | @dct p xs vs hp h0 n rs =>
      obtain ⟨od, I2⟩ := I'.lock hp trivial
      have un : unl (H' p) := by rw [hp]; trivial
      exact ⟨.ref p, _, I2, rv, k m' _ _ (x.putAt h0 un) (f'.put un n) (.dct upd_same (rs.mono (Kp.put un)))⟩
theorem d_lkF (h : PE X e (TFm K me)) : PE X e (TEm K me) := d_lk (h.weak TFm.r)
theorem d_tr (h : PE X e (TFm K me)) : PE X e (TEm K (mTr me)) := h.weak fun σ H Q ⟨m, Γ, O, r, O', f, s, e, k⟩ => by
  unfold mTr at e
  split at e
  · rename_i vs O1 h1
    cases e
    refine ⟨m, Γ, O, _, O1, f, s, h1, fun m' H' v a b c => ?_⟩
    cases c with
    | @lst p xs _ hp h0 n rs =>
      refine k (m' ++ [p]) H' _ (a.trackAt h0) (b.track hp n rs) (.ref ?_)
      rw [← b.len]; simp
  · rename_i vs O1 h1
    cases e
    refine ⟨m, Γ, O, _, O1, f, s, h1, fun m' H' v a b c => ?_⟩
    cases c with
    | @dct p xs _ hp h0 n rs =>
      refine k (m' ++ [p]) H' _ (a.trackAt h0) (b.track hp n rs) (.ref ?_)
      rw [← b.len]; simp
  · cases e
theorem Fit.kill {m : List Addr} {O : So} {H : Hp} (f : Fit K m O H) {n : Nat} {p : Addr} {u : HO} (e : m[n]? = some p) (hu : TV.unl (H p)) : Fit K m (O.set n .dead) (upd H p u) := f.write (b := .dead) e hu trivial
end
end TV
end
-- V2
section
set_option Elab.async false
set_option linter.all false
set_option maxRecDepth 100000
set_option maxHeartbeats 2000000
/-! V2: operators, comparisons, subscripts, slices. -/
namespace TV
open PySem L2
open TB (SqF NewT Ctx FCtx GK lk pt RelKV)
/-! ### data that are compared -/
mutual
def toD : Va → PyData
  | .none => .none
  | .bool b => .bool b
  | .int i => .int i
  | .str x => .str x
  | .tup vs => .tuple (toDs vs)
  | .lst vs => .list (toDs vs)
  | .dct _ => .none
  | .ref _ => .none
def toDs : List Va → List PyData
  | [] => []
  | v :: vs => toD v :: toDs vs
end
mutual
/-- no dict, no reference within, at most so deep -/
def pl : Nat → Va → Bool
  | _, .none => true
  | _, .bool _ => true
  | _, .int _ => true
  | _, .str _ => true
  | n, .tup vs => match n with
    | 0 => false
    | n + 1 => plAll n vs
  | n, .lst vs => match n with
    | 0 => false
    | n + 1 => plAll n vs
  | _, .dct _ => false
  | _, .ref _ => false
def plAll : Nat → List Va → Bool
  | _, [] => true
  | n, v :: vs => pl n v && plAll n vs
end
theorem plAll_eq (n : Nat) (vs : List Va) : plAll n vs = vs.all (pl n) := by
  induction vs with
  | nil => simp [plAll]
  | cons v vs ih => simp [plAll, ih]
theorem toDs_eq (vs : List Va) : toDs vs = vs.map toD := by
  induction vs with
  | nil => simp [toDs]
  | cons v vs ih => simp [toDs, ih]
mutual
theorem pl_plain : ∀ (v : Va) (n : Nat), pl n v = true → (toD v).plain = true ∧ (toD v).depth ≤ n
  | .none, n, _ => by simp [toD, PyData.plain, PyData.depth]
  | .bool _, n, _ => by simp [toD, PyData.plain, PyData.depth]
  | .int _, n, _ => by simp [toD, PyData.plain, PyData.depth]
  | .str _, n, _ => by simp [toD, PyData.plain, PyData.depth]
  | .tup vs, 0, h => by simp [pl] at h
  | .tup vs, n + 1, h => by
    have := plAll_plain vs n (by simpa [pl] using h)
    simp [toD, PyData.plain, PyData.depth, this]
  | .lst vs, 0, h => by simp [pl] at h
  | .lst vs, n + 1, h => by
    have := plAll_plain vs n (by simpa [pl] using h)
    simp [toD, PyData.plain, PyData.depth, this]
  | .dct _, n, h => by simp [pl] at h
  | .ref _, n, h => by simp [pl] at h
theorem plAll_plain : ∀ (vs : List Va) (n : Nat), plAll n vs = true → PyData.plainAll (toDs vs) = true ∧ PyData.depthAll (toDs vs) ≤ n
  | [], n, _ => by simp [toDs, PyData.plainAll, PyData.depthAll]
  | v :: vs, n, h => by
    rw [plAll, Bool.and_eq_true] at h
    have h1 := pl_plain v n h.1
    have h2 := plAll_plain vs n h.2
    simp only [toDs, PyData.plainAll, PyData.depthAll, Bool.and_eq_true]
    exact ⟨⟨h1.1, h2.1⟩, Nat.max_le.mpr ⟨h1.2, h2.2⟩⟩
end
mutual
theorem rep_dp {K : PySem.W.Frag} {m : List Addr} {H : Hp} : ∀ {v : Va} {u : V} {n : Nat}, Rep K m H v u → pl n v = true → Dp K H u (toD v)
  | .none, _, _, h, _ => by cases h; exact .non
  | .bool b, _, _, h, _ => by cases h; exact .bl b
  | .int i, _, _, h, _ => by cases h; exact .int i
  | .str x, _, _, h, _ => by cases h; exact .str x
  | .tup vs, _, 0, h, p => by simp [pl] at p
  | .tup vs, _, n + 1, h, p => by
    cases h with
    | tup h r => exact .tup h.t (reps_dp (n := n) r (by simpa [pl] using p))
  | .lst vs, _, 0, h, p => by simp [pl] at p
  | .lst vs, _, n + 1, h, p => by
    cases h with
    | lst h r => exact .lst h.l (reps_dp (n := n) r (by simpa [pl] using p))
  | .dct _, _, _, _, p => by simp [pl] at p
  | .ref _, _, _, _, p => by simp [pl] at p
theorem reps_dp {K : PySem.W.Frag} {m : List Addr} {H : Hp} : ∀ {vs : List Va} {us : List V} {n : Nat}, Reps K m H vs us → plAll n vs = true → DpAll K H us (toDs vs)
  | [], _, _, h, _ => by cases h; exact .nil
  | v :: vs, _, n, h, p => by
    rw [plAll, Bool.and_eq_true] at p
    cases h with
    | cons h r => exact .cons (rep_dp h p.1) (reps_dp r p.2)
end
/-- a list that is followed, read -/
def unref (O : So) : Va → Va
  | .ref n => match O[n]? with
    | some (.lst vs) => .lst vs
    | _ => .ref n
  | v => v
theorem rep_unref {K : PySem.W.Frag} {m : List Addr} {O : So} {H : Hp} {v : Va} {u : V} {n : Nat} (f : Fit K m O H) (r : Rep K m H v u) (p : pl n (unref O v) = true) : Dp K H u (toD (unref O v)) := by
  cases r with
  | @ref k q h =>
    have e0 : unref O (.ref k) = match O[k]? with | some (.lst vs) => .lst vs | _ => .ref k := rfl
    rw [e0] at p ⊢
    cases hO : O[k]? with
    | none => rw [hO] at p; simp [pl] at p
    | some b =>
      cases b with
      | lst vs =>
        rw [hO] at p
        obtain ⟨xs, h1, h2⟩ := f.lstAt h hO
        cases n with
        | zero => simp [pl] at p
        | succ n => exact .lst (Or.inl (Or.inl h1)) (reps_dp (n := n) h2 (by simpa [pl] using p))
      | dct vs => rw [hO] at p; simp [pl] at p
      | dead => rw [hO] at p; simp [pl] at p
  | non => exact rep_dp (m := m) (n := n) .non p
  | bl b => exact rep_dp (m := m) (n := n) (.bl b) p
  | int b => exact rep_dp (m := m) (n := n) (.int b) p
  | str b => exact rep_dp (m := m) (n := n) (.str b) p
  | tup h r => exact rep_dp (m := m) (n := n) (.tup h r) p
  | lst h r => exact rep_dp (m := m) (n := n) (.lst h r) p
  | dct h r => exact rep_dp (m := m) (n := n) (.dct h r) p
def veq (x y : Va) : Bool := PyData.eqv (toD x) (toD y)
def eqV (O : So) (x y : Va) : Option Va := if pl 60 (unref O x) = true ∧ pl 60 (unref O y) = true then some (.bool (veq (unref O x) (unref O y))) else none
def neV (O : So) (x y : Va) : Option Va := if pl 60 (unref O x) = true ∧ pl 60 (unref O y) = true then some (.bool (!veq (unref O x) (unref O y))) else none
/-! ### the operations -/
def addV (O : So) : Va → Va → Option Va
  | .int i, .int j => some (.int (i + j))
  | .str x, .str y => if x.length + y.length ≤ sizeLine then some (.str (x ++ y)) else none
  | .tup xs, .tup ys => if xs.length + ys.length ≤ sizeLine then some (.tup (xs ++ ys)) else none
  | x, y => match asL O x, asL O y with
    | some xs, some ys => if xs.length + ys.length ≤ sizeLine then some (.lst (xs ++ ys)) else none
    | _, _ => none
def subV (_ : So) : Va → Va → Option Va
  | .int i, .int j => some (.int (i - j))
  | _, _ => none
def mulOk (i j : Int) : Bool := decide (i.natAbs.log2 + j.natAbs.log2 < 1000000)
def mulV (O : So) : Va → Va → Option Va
  | .int i, .int j => if mulOk i j = true then some (.int (i * j)) else none
  | .tup xs, .int j => if 0 ≤ j ∧ j ≤ 1000 ∧ xs.length ≤ 1000 then some (.tup (List.replicate j.toNat xs).flatten) else none
  | x, .int j => match asL O x with
    | some xs => if -(2 ^ 63) ≤ j ∧ j < 2 ^ 63 ∧ xs.length * j.toNat ≤ sizeLine then some (.lst (List.replicate j.toNat xs).flatten) else none
    | none => none
  | _, _ => none
def divV (_ : So) : Va → Va → Option Va
  | .int i, .int j => if 0 < j ∧ Builtin.divisionGoesByPylong i j = false then some (.int (i / j)) else none
  | _, _ => none
def modV (_ : So) : Va → Va → Option Va
  | .int i, .int j => if 0 < j then some (.int (i % j)) else none
  | _, _ => none
def powV (_ : So) : Va → Va → Option Va
  | .int i, .int j => if 0 ≤ j ∧ j ≤ 1000000 ∧ i.natAbs < 2 ^ 64 then some (.int (i ^ j.toNat)) else none
  | _, _ => none
def negV (_ : So) : Va → Option Va
  | .int i => some (.int (-i))
  | _ => none
def ltS (x y : Str) : Bool := decide (x.cps.toList < y.cps.toList)
def ltV (_ : So) : Va → Va → Option Va
  | .int i, .int j => some (.bool (decide (i < j)))
  | .str x, .str y => some (.bool (ltS x y))
  | _, _ => none
def leV (_ : So) : Va → Va → Option Va
  | .int i, .int j => some (.bool (decide (i ≤ j)))
  | .str x, .str y => some (.bool (!ltS y x))
  | _, _ => none
def gtV (_ : So) : Va → Va → Option Va
  | .int i, .int j => some (.bool (decide (j < i)))
  | .str x, .str y => some (.bool (ltS y x))
  | _, _ => none
def geV (_ : So) : Va → Va → Option Va
  | .int i, .int j => some (.bool (decide (j ≤ i)))
  | .str x, .str y => some (.bool (!ltS x y))
  | _, _ => none
def isNone : Va → Bool
  | .none => true
  | _ => false
def isV (_ : So) : Va → Va → Option Va
  | x, .none => some (.bool (isNone x))
  | _, _ => none
def isNotV (_ : So) : Va → Va → Option Va
  | x, .none => some (.bool (!isNone x))
  | _, _ => none
/-- x in y -/
def inB (O : So) (x y : Va) : Option Bool := match asD O y with
  | some kvs => (keyOf x).map fun k => (lk kvs k).isSome
  | none => match asQ O y with
    | some vs => if pl 60 x = true ∧ plAll 60 vs = true then some (vs.any fun w => veq w x) else none
    | none => match x, y with
      | .str s, .str t => match s.cps.toList with
        | [c] => some (decide (c ∈ t.cps.toList))
        | _ => none
      | _, _ => none
def inV (O : So) (x y : Va) : Option Va := (inB O x y).map .bool
def notInV (O : So) (x y : Va) : Option Va := (inB O x y).map fun b => .bool (!b)
/-- x[i] -/
def ixV (O : So) (x y : Va) : Option Va := match asD O x with
  | some kvs => (keyOf y).bind fun k => lk kvs k
  | none => match y with
    | .int i => match asQ O x with
      | some vs => atI vs i
      | none => match x with
        | .str z => if z.length ≤ sizeLine then (atI z.cps.toList i).map fun c => .str ⟨#[c]⟩ else none
        | _ => none
    | _ => none
def cut {α : Type} (xs : List α) (lo hi : Option Int) : List α := (xs.drop (HT.sIx xs.length 0 lo)).take (HT.sIx xs.length xs.length hi - HT.sIx xs.length 0 lo)
/-- x[lo:hi] -/
def slV (O : So) (x : Va) (lo hi : Option Int) : Option Va := match x with
  | .tup vs => some (.tup (cut vs lo hi))
  | x => (asL O x).map fun vs => .lst (cut vs lo hi)
def mNone : Ox := fun _ O => some (none, O)
def mSome (a : Ex) : Ox := fun Γ O => match a Γ O with
  | some (.int i, O1) => some (some i, O1)
  | _ => none
def mSl (a : Ex) (lo hi : Ox) : Ex := fun Γ O => match a Γ O with
  | some (x, O1) => match lo Γ O1 with
    | some (l, O2) => match hi Γ O2 with
      | some (h, O3) => match slV O3 x l h with
        | some v => some (v, O3)
        | none => none
      | none => none
    | none => none
  | none => none
def revV (O : So) : Va → Option Va
  | .tup vs => some (.tup vs.reverse)
  | x => (asL O x).map fun vs => .lst vs.reverse
/-! truth -/
def mB (a : Ex) : Tx := fun Γ O => match a Γ O with
  | some (.bool b, O1) => some (b, O1)
  | _ => none
def mAnd (a b : Ex) : Ex := fun Γ O => match a Γ O with
  | some (.bool true, O1) => b Γ O1
  | some (.bool false, O1) => some (.bool false, O1)
  | _ => none
def mOr (a b : Ex) : Ex := fun Γ O => match a Γ O with
  | some (.bool true, O1) => some (.bool true, O1)
  | some (.bool false, O1) => b Γ O1
  | _ => none
def mNot (a : Ex) : Ex := fun Γ O => match a Γ O with
  | some (.bool b, O1) => some (.bool (!b), O1)
  | _ => none
def tAnd (a b : Tx) : Tx := fun Γ O => match a Γ O with
  | some (true, O1) => b Γ O1
  | some (false, O1) => some (false, O1)
  | none => none
def tOr (a b : Tx) : Tx := fun Γ O => match a Γ O with
  | some (true, O1) => some (true, O1)
  | some (false, O1) => b Γ O1
  | none => none
def tNot (a : Tx) : Tx := fun Γ O => match a Γ O with
  | some (b, O1) => some (!b, O1)
  | none => none
def mIf (c : Tx) (a b : Ex) : Ex := fun Γ O => match c Γ O with
  | some (true, O1) => a Γ O1
  | some (false, O1) => b Γ O1
  | none => none
def mChain (f g : So → Va → Va → Option Va) (a b c : Ex) : Ex := fun Γ O => match a Γ O with
  | some (x, O1) => match b Γ O1 with
    | some (y, O2) => match f O2 x y with
      | some (.bool true) => match c Γ O2 with
        | some (z, O3) => match g O3 y z with
          | some v => some (v, O3)
          | none => none
        | none => none
      | some (.bool false) => some (.bool false, O2)
      | _ => none
    | none => none
  | none => none
section
variable {K : PySem.W.Frag}
/-- what r asks of two values, as f says -/
def Sem2 (K : PySem.W.Frag) (f : So → Va → Va → Option Va) (r : R2) : Prop := ∀ m O H x y u v w Q, Fit K m O H → Rep K m H x u → Rep K m H y v → f O x y = some w → (∀ m' H' z, Ext m H m' H' → Fit K m' O H' → Rep K m' H' w z → Q z H') → r u v H Q
def Sem2R (K : PySem.W.Frag) (f : So → Va → Va → Option Va) (r : R2) : Prop := ∀ m O H x y u v w Q, Fit K m O H → Rep K m H x u → Rep K m H y v → f O x y = some w → (∀ m' H' z, Ext m H m' H' → Fit K m' O H' → Rep K m' H' w z ∨ Raw K H m' H' w z → Q z H') → r u v H Q
theorem sem_add : Sem2R K addV (TB.rAddA K) := by
  intro m O H x y u v w Q f rx ry e k
  have lists : ∀ xs ys, asL O x = some xs → asL O y = some ys → xs.length + ys.length ≤ sizeLine → w = .lst (xs ++ ys) → TB.rAddA K u v H Q := by
    intro xs ys ex ey hz hw
    subst hw
    obtain ⟨a, us, rfl, ha, ra⟩ := rep_L f ex rx
    obtain ⟨b, vs, rfl, hb, rb⟩ := rep_L f ey ry
    refine Or.inr (Or.inr (Or.inl ⟨a, b, us, vs, rfl, rfl, ha.l, hb.l, by rw [← ra.length, ← rb.length]; exact hz, fun p np => ?_⟩))
    obtain ⟨h1, h2, h3⟩ := Raw.new f np (ra.append rb)
    exact k m _ _ h1 h2 (Or.inr h3)
  unfold addV at e
  split at e
  · cases rx; cases ry; cases e
    exact Or.inl ⟨_, _, rfl, rfl, k m H _ (Ext.refl _ _) f (Or.inl (.int _))⟩
  · cases rx; cases ry
    split at e
    · cases e
      rename_i hz
      exact Or.inr (Or.inr (Or.inr ⟨_, _, rfl, rfl, hz, k m H _ (Ext.refl _ _) f (Or.inl (.str _))⟩))
    · cases e
  · rename_i xs ys
    split at e
    · rename_i hz
      cases e
      cases rx with
      | @tup a us _ ha ra =>
        cases ry with
        | @tup b vs _ hb rb =>
          refine Or.inr (Or.inl ⟨a, b, us, vs, rfl, rfl, ha.t, hb.t, by rw [← ra.length, ← rb.length]; exact hz, fun e => ?_, fun _ e => ?_, fun _ _ => ?_⟩)
          · subst e; cases ra
            exact k m H _ (Ext.refl _ _) f (Or.inl (.tup hb rb))
          · subst e; cases rb
            rw [List.append_nil] at k
            exact k m H _ (Ext.refl _ _) f (Or.inl (.tup ha ra))
          · exact newT f (ra.append rb) fun m' H' z a b c => k m' H' z a b (Or.inl c)
    · cases e
  · split at e
    · rename_i xs ys ex ey
      split at e
      · rename_i hz
        cases e
        exact lists xs ys ex ey hz rfl
      · cases e
    · cases e
theorem lstX {X : Cx} {pins : List (Addr × Obj)} {σ : L2.St} {H : Hp} {s : Shared} {l : Addr} {xs : List V} (I : Inv X pins σ H s) (h : LstR X.K H l xs) : xs.length ≤ sizeLine ∧ ∃ (its : List Value) (n : Nat), Vals xs its ∧ xs.length = its.length ∧ s.heap.get? l = some { cls := .type "list", data := .seq its.toArray n } := by
  rcases h with h | ⟨its, n, h1, h2, h3⟩
  · exact TB.Inv.lstR I h
  · have hl := h3.length
    exact ⟨by simp at hl; omega, its.toList, n, h3, hl, by simpa using I.kIn l _ h1⟩
def rRepX (K : PySem.W.Frag) : R2 := fun x y H Q => ∃ l k xs, x = .ref l ∧ y = .int k ∧ LstR K H l xs ∧ -(2 ^ 63) ≤ k ∧ k < 2 ^ 63 ∧ xs.length * k.toNat ≤ sizeLine ∧
  ∀ p, H p = none → Q (.ref p) (upd H p (.lst (List.replicate k.toNat xs).flatten))
open PyProof.Rows in
theorem op_repX {X : Cx} : OpR X (binaryOp .Mult) (rRepX X.K) := by
  intro pins s σ H x y v u Q I rx ry h
  obtain ⟨l, k, xs, rfl, rfl, hH, h1, h2, hz, q⟩ := h
  cases rx
  obtain ⟨t, rfl⟩ := ry
  obtain ⟨z, its, n, r, hl, e⟩ := lstX I hH
  have hlen : its.toArray.size * k.toNat ≤ sizeLine := by rw [List.size_toArray, ← hl]; exact hz
  have hcap : ¬ its.toArray.size * k.toNat > (2 ^ 63 - 1) / 8 := by
    have : (sizeLine : Nat) ≤ (2 ^ 63 - 1) / 8 := by decide
    omega
  have hfit : ¬ (!Builtin.List.listFitsIndex k) = true := by rw [fitsIndex_both h1 h2]; exact Bool.false_ne_true
  have hlong : ¬ Builtin.List.listTooLong (its.toArray.size * k.toNat) = true := by rw [notLongL hlen]; exact Bool.false_ne_true
  have hnew : List.foldl (fun x1 x2 => x1 ++ x2) #[] (List.replicate (if its.toArray.isEmpty = true then 0 else k.toNat) its.toArray) = (List.replicate k.toNat its).flatten.toArray := by
    have f0 : ∀ m : Nat, List.foldl (fun x1 x2 => x1 ++ x2) #[] (List.replicate m its.toArray) = (List.replicate m its).flatten.toArray := fun m => by
      have := foldl_rep its m []
      rw [List.nil_append] at this
      exact this
    rw [f0]
    cases its with
    | nil => simp
    | cons a r' => rw [if_neg (by simp)]
  refine wpAny_binaryOp_repeat_ref (T := "list") (U := "int") (by decide) ⟨_, e, rfl⟩ (fun s' => typeIs_int s' k t) noFill_list_mul F.fills_int_mul F.slot_int_rmul repeat_list F.slot_int_index.lookup
    (call_meets F.slot_int_rmul (typeIs_int s k t) F.entry_int_rmul (F.args_int_rmul_2 _ _) (int___rmul___int_list k t l its.toArray n)
      ⟨e, rfl, ⟨_, e, rfl⟩, call_meets F.slot_list_mul ⟨_, e, rfl⟩ F.entry_list_mul (F.args_list_mul_2 _ _) (AutoListH.list___mul___list_int_3 l its.toArray n k t hfit hcap hlong) ⟨e, ?_⟩⟩)
  rw [hnew]
  exact ⟨.ref _, _, I.lnew (t' := s.toks) (r.rep k.toNat) (by rw [PyProof.Rows.lm_len_rep_flat, Nat.mul_comm]; exact hz), rfl, q _ I.fresh⟩
open PyProof.Rows in
theorem tuple_mulS (l : Addr) (items : Array Value) (n : Nat) (dd : Option Addr) (sl : Array (Option Value)) (x : Int) (u : Tok) (c0 : (decide (x < -(2 ^ 63)) || decide (x ≥ 2 ^ 63)) = false) (c1 : (items.isEmpty || x == 1) = true) :
    Meets (Builtin.«tuple.__mul__» ⟨[.ref l, .int x u], []⟩) (fun _ R s => s.heap.get? l = some { cls := .type "tuple", dict := dd, data := .seq items n, slots := sl } ∧ R (.ok (.ret (Value.ref l))) s) :=
  .of_wp fun prog w A R s h => by
    obtain ⟨hp, g, d, tk, os⟩ := s
    obtain ⟨hl, h⟩ := h
    have f1 := AutoSeq1.idx_int
    wp_walk using wpAny_loadPart' hl
    repeat (first
      | (refine wpAny_ite_false (decide_eq_false (by rw [c0]; exact Bool.false_ne_true)) ?_; wp_walk using wpAny_loadPart' hl)
      | (refine wpAny_ite_true (decide_eq_true c1) ?_; wp_walk using wpAny_loadPart' hl))
    exact ⟨_, rfl, h⟩
open PyProof.Rows in
theorem tuple_mul0 (l : Addr) (items : Array Value) (n : Nat) (dd : Option Addr) (sl : Array (Option Value)) (u : Tok) (c1 : (items.isEmpty || (0 : Int) == 1) = false) :
    Meets (Builtin.«tuple.__mul__» ⟨[.ref l, .int 0 u], []⟩) (fun _ R s => s.heap.get? l = some { cls := .type "tuple", dict := dd, data := .seq items n, slots := sl } ∧
      R (.ok (.ret (Value.ref s.heap.objs.size))) { s with heap := s.heap.push { cls := Value.type "tuple", data := Data.seq #[] }, toks := s.toks }) :=
  .of_wp fun prog w A R s h => by
    obtain ⟨hp, g, d, tk, os⟩ := s
    obtain ⟨hl, h⟩ := h
    have f1 := AutoSeq1.idx_int
    have c0 : (decide ((0 : Int) < -(2 ^ 63)) || decide ((0 : Int) ≥ 2 ^ 63)) = false := by decide
    have c2 : (decide ((0 : Int) ≤ 0) || items.isEmpty) = true := by simp
    have hsz : ¬ ((#[] : Array Value).size > sizeLine) := by simp
    wp_walk using wpAny_loadPart' hl
    repeat (first
      | (refine wpAny_ite_false (decide_eq_false (by rw [c0]; exact Bool.false_ne_true)) ?_; wp_walk using wpAny_loadPart' hl)
      | (refine wpAny_ite_false (decide_eq_false (by rw [c1]; exact Bool.false_ne_true)) ?_; wp_walk using wpAny_loadPart' hl)
      | (refine wpAny_ite_true (decide_eq_true c2) ?_; wp_walk using wpAny_loadPart' hl)
      | (refine wpAny_ite_false (decide_eq_false hsz) ?_; wp_walk using wpAny_loadPart' hl))
    exact ⟨_, rfl, h⟩
def rRepS (K : PySem.W.Frag) : R2 := fun x y H Q => ∃ l k, x = .ref l ∧ y = .int k ∧ SqT K H l [] ∧ 0 ≤ k ∧ k ≤ 1000 ∧ Q (.ref l) H
open PyProof.Rows in
theorem op_repS {X : Cx} : OpR X (binaryOp .Mult) (rRepS X.K) := by
  intro pins s σ H x y v u Q I rx ry h
  obtain ⟨l, k, rfl, rfl, hT, h1, h2, q⟩ := h
  cases rx
  obtain ⟨t, rfl⟩ := ry
  obtain ⟨its, r, ⟨⟨cls, dd, data, sl⟩, ho, hc, n, hd⟩, hs⟩ := I.tuple hT
  simp only at hc hd
  subst hc hd
  have hi : its = [] := List.eq_nil_of_length_eq_zero r.length.symm
  subst hi
  have c0 : (decide (k < -(2 ^ 63)) || decide (k ≥ 2 ^ 63)) = false := by rw [decide_eq_false (by omega), decide_eq_false (by omega)]; rfl
  exact wpAny_binaryOp_repeat_ref (T := "tuple") (U := "int") (by decide) ⟨_, ho, rfl⟩ (fun s' => typeIs_int s' k t) noFill_tuple_mul F.fills_int_mul F.slot_int_rmul repeat_tuple F.slot_int_index.lookup
    (call_meets F.slot_int_rmul (typeIs_int s k t) F.entry_int_rmul (F.args_int_rmul_2 _ _) (int_rmul_tuple k t l [].toArray n dd sl)
      ⟨ho, rfl, ⟨_, ho, rfl⟩, call_meets F.slot_tuple_mul ⟨_, ho, rfl⟩ F.entry_tuple_mul (F.args_tuple_mul_2 _ _) (tuple_mulS l [].toArray n dd sl k t c0 (by simp)) ⟨ho, ⟨.ref l, H, I, rfl, q⟩⟩⟩)
def rRep0 (K : PySem.W.Frag) : R2 := fun x y H Q => ∃ l xs, x = .ref l ∧ y = .int 0 ∧ SqT K H l xs ∧ xs ≠ [] ∧ TB.NewT H [] Q
open PyProof.Rows in
theorem op_rep0 {X : Cx} : OpR X (binaryOp .Mult) (rRep0 X.K) := by
  intro pins s σ H x y v u Q I rx ry h
  obtain ⟨l, xs, rfl, rfl, hT, hne, q⟩ := h
  cases rx
  obtain ⟨t, rfl⟩ := ry
  obtain ⟨its, r, ⟨⟨cls, dd, data, sl⟩, ho, hc, n, hd⟩, hs⟩ := I.tuple hT
  simp only at hc hd
  subst hc hd
  have hle : its.length = xs.length := r.length.symm
  have hi : its.toArray.isEmpty = false := by cases its with | nil => exact absurd (List.eq_nil_of_length_eq_zero hle.symm) hne | cons a b => rfl
  refine wpAny_binaryOp_repeat_ref (T := "tuple") (U := "int") (by decide) ⟨_, ho, rfl⟩ (fun s' => typeIs_int s' 0 t) noFill_tuple_mul F.fills_int_mul F.slot_int_rmul repeat_tuple F.slot_int_index.lookup
    (call_meets F.slot_int_rmul (typeIs_int s 0 t) F.entry_int_rmul (F.args_int_rmul_2 _ _) (int_rmul_tuple 0 t l its.toArray n dd sl)
      ⟨ho, rfl, ⟨_, ho, rfl⟩, call_meets F.slot_tuple_mul ⟨_, ho, rfl⟩ F.entry_tuple_mul (F.args_tuple_mul_2 _ _) (tuple_mul0 l its.toArray n dd sl t (by rw [hi]; rfl)) ⟨ho, ?_⟩⟩)
  exact TB.tupF I (its := []) .nil (by simp) q
def rMulX (K : PySem.W.Frag) : R2 := fun x y H Q => rI CMulW (fun i j => .int (i * j)) x y H Q ∨ TB.rRepF K x y H Q ∨ TB.rRepT1 K x y H Q ∨ rRepX K x y H Q ∨ rRepS K x y H Q ∨ rRep0 K x y H Q
theorem op_mulX {X : Cx} : OpR X (binaryOp .Mult) (rMulX X.K) := op_mulW.or (TB.op_repF.or (TB.op_repT1.or (op_repX.or (op_repS.or op_rep0))))
theorem sem_mul : Sem2R K mulV (rMulX K) := by
  intro m O H x y u v w Q f rx ry e k
  unfold mulV at e
  split at e
  · cases rx; cases ry
    split at e
    · rename_i hz
      cases e
      exact Or.inl ⟨_, _, rfl, rfl, (show CMulW _ _ from of_decide_eq_true (p := (_ : Nat) < 1000000) hz), k m H _ (Ext.refl _ _) f (Or.inl (.int _))⟩
    · cases e
  · rename_i xs j
    split at e
    · rename_i hz
      obtain ⟨h1, h2, h3⟩ := hz
      cases e
      cases ry
      cases rx with
      | @tup a us _ ha ra =>
        by_cases h0 : xs = []
        · subst h0
          have : (List.replicate j.toNat ([] : List Va)).flatten = [] := by simp
          rw [this] at k
          have hu : us = [] := by cases ra; rfl
          subst hu
          exact Or.inr (Or.inr (Or.inr (Or.inr (Or.inl ⟨a, j, rfl, rfl, ha.t, h1, h2, k m H _ (Ext.refl _ _) f (Or.inl (.tup ha ra))⟩))))
        by_cases hj : j = 1
        · subst hj
          have : (List.replicate (1 : Int).toNat xs).flatten = xs := by simp
          rw [this] at k
          exact Or.inr (Or.inr (Or.inl ⟨a, us, rfl, rfl, ha.t, k m H _ (Ext.refl _ _) f (Or.inl (.tup ha ra))⟩))
        have hne : us ≠ [] := fun z => by subst z; cases ra; exact h0 rfl
        by_cases hz : j = 0
        · subst hz
          exact Or.inr (Or.inr (Or.inr (Or.inr (Or.inr ⟨a, us, rfl, rfl, ha.t, hne, newT f .nil fun m' H' z a b c => k m' H' z a b (Or.inl c)⟩))))
        · refine Or.inr (Or.inl ⟨a, j, us, rfl, rfl, ha.t, hne, by omega, h2, by rw [← ra.length]; exact h3, ?_⟩)
          exact newT f (ra.rep _) fun m' H' z a b c => k m' H' z a b (Or.inl c)
    · cases e
  · rename_i j _ _
    split at e
    · rename_i xs ex
      split at e
      · rename_i hz
        obtain ⟨h1, h2, h3⟩ := hz
        cases e
        cases ry
        obtain ⟨a, us, rfl, ha, ra⟩ := rep_L f ex rx
        refine Or.inr (Or.inr (Or.inr (Or.inl ⟨a, j, us, rfl, rfl, ha, h1, h2, by rw [← ra.length]; exact h3, fun p np => ?_⟩)))
        obtain ⟨h1, h2, h3⟩ := Raw.new f np (ra.rep j.toNat)
        exact k m _ _ h1 h2 (Or.inr h3)
      · cases e
    · cases e
  · cases e
theorem sem_sub : Sem2 K subV (rI0 fun i j => .int (i - j)) := by
  intro m O H x y u v w Q f rx ry e k
  unfold subV at e
  split at e
  · cases rx; cases ry; cases e
    exact ⟨_, _, rfl, rfl, k m H _ (Ext.refl _ _) f (.int _)⟩
  · cases e
theorem sem_div : Sem2 K divV (rI CDivP fun i j => .int (i / j)) := by
  intro m O H x y u v w Q f rx ry e k
  unfold divV at e
  split at e
  · cases rx; cases ry
    split at e
    · rename_i hz
      cases e
      exact ⟨_, _, rfl, rfl, hz, k m H _ (Ext.refl _ _) f (.int _)⟩
    · cases e
  · cases e
theorem sem_mod : Sem2 K modV (rI (fun _ j => 0 < j) fun i j => .int (i % j)) := by
  intro m O H x y u v w Q f rx ry e k
  unfold modV at e
  split at e
  · cases rx; cases ry
    split at e
    · rename_i hz
      cases e
      exact ⟨_, _, rfl, rfl, hz, k m H _ (Ext.refl _ _) f (.int _)⟩
    · cases e
  · cases e
theorem sem_pow : Sem2 K powV (rI CPow fun i j => .int (i ^ j.toNat)) := by
  intro m O H x y u v w Q f rx ry e k
  unfold powV at e
  split at e
  · cases rx; cases ry
    split at e
    · rename_i hz
      cases e
      exact ⟨_, _, rfl, rfl, hz, k m H _ (Ext.refl _ _) f (.int _)⟩
    · cases e
  · cases e
/-! comparisons -/
def rLtA : R2 := fun x y H Q => rI0 (fun i j => .bl (decide (i < j))) x y H Q ∨ ∃ i j, x = .str i ∧ y = .str j ∧ Q (.bl (decide (i.cps.toList < j.cps.toList))) H
def rLeA : R2 := fun x y H Q => rI0 (fun i j => .bl (decide (i ≤ j))) x y H Q ∨ ∃ i j, x = .str i ∧ y = .str j ∧ Q (.bl (!decide (j.cps.toList < i.cps.toList))) H
def rGtA : R2 := fun x y H Q => rI0 (fun i j => .bl (decide (j < i))) x y H Q ∨ ∃ i j, x = .str i ∧ y = .str j ∧ Q (.bl (decide (j.cps.toList < i.cps.toList))) H
def rGeA : R2 := fun x y H Q => rI0 (fun i j => .bl (decide (j ≤ i))) x y H Q ∨ ∃ i j, x = .str i ∧ y = .str j ∧ Q (.bl (!decide (i.cps.toList < j.cps.toList))) H
theorem op_ltA {X : Cx} : OpR X (compareOp .Lt) rLtA := op_lt.or op_lt_str
theorem op_leA {X : Cx} : OpR X (compareOp .LtE) rLeA := op_le.or op_le_str
theorem op_gtA {X : Cx} : OpR X (compareOp .Gt) rGtA := op_gt.or op_gt_str
theorem op_geA {X : Cx} : OpR X (compareOp .GtE) rGeA := op_ge.or op_ge_str
theorem sem_lt : Sem2 K ltV rLtA := by
  intro m O H x y u v w Q f rx ry e k
  unfold ltV at e
  split at e
  · cases rx; cases ry; cases e
    exact Or.inl ⟨_, _, rfl, rfl, k m H _ (Ext.refl _ _) f (.bl _)⟩
  · cases rx; cases ry; cases e
    exact Or.inr ⟨_, _, rfl, rfl, k m H _ (Ext.refl _ _) f (.bl _)⟩
  · cases e
theorem sem_le : Sem2 K leV rLeA := by
  intro m O H x y u v w Q f rx ry e k
  unfold leV at e
  split at e
  · cases rx; cases ry; cases e
    exact Or.inl ⟨_, _, rfl, rfl, k m H _ (Ext.refl _ _) f (.bl _)⟩
  · cases rx; cases ry; cases e
    exact Or.inr ⟨_, _, rfl, rfl, k m H _ (Ext.refl _ _) f (.bl _)⟩
  · cases e
theorem sem_gt : Sem2 K gtV rGtA := by
  intro m O H x y u v w Q f rx ry e k
  unfold gtV at e
  split at e
  · cases rx; cases ry; cases e
    exact Or.inl ⟨_, _, rfl, rfl, k m H _ (Ext.refl _ _) f (.bl _)⟩
  · cases rx; cases ry; cases e
    exact Or.inr ⟨_, _, rfl, rfl, k m H _ (Ext.refl _ _) f (.bl _)⟩
  · cases e
theorem sem_ge : Sem2 K geV rGeA := by
  intro m O H x y u v w Q f rx ry e k
  unfold geV at e
  split at e
  · cases rx; cases ry; cases e
    exact Or.inl ⟨_, _, rfl, rfl, k m H _ (Ext.refl _ _) f (.bl _)⟩
  · cases rx; cases ry; cases e
    exact Or.inr ⟨_, _, rfl, rfl, k m H _ (Ext.refl _ _) f (.bl _)⟩
  · cases e
theorem isNone_rep {m : List Addr} {H : Hp} {x : Va} {u : V} (r : Rep K m H x u) : decide (u = .non) = isNone x := by
  cases r <;> simp [isNone]
theorem sem_is : Sem2 K isV (fun x y H Q => y = .non ∧ Q (.bl (decide (x = .non))) H) := by
  intro m O H x y u v w Q f rx ry e k
  unfold isV at e
  split at e
  · cases ry; cases e
    rw [isNone_rep rx]
    exact ⟨rfl, k m H _ (Ext.refl _ _) f (.bl _)⟩
  · cases e
/-- == and != of data -/
def rEqP (K : PySem.W.Frag) (neg : Bool) : R2 := fun x y H Q => ∃ d e, Dp K H x d ∧ Dp K H y e ∧ d.plain = true ∧ e.plain = true ∧ d.depth ≤ 60 ∧ Q (.bl (if neg then !PyData.eqv d e else PyData.eqv d e)) H
theorem op_eqP {X : Cx} (hu : X.A.units + 64 < cLine) : OpR X (compareOp .Eq) (rEqP X.K false) := by
  intro pins s σ H x y v u Q I rx ry h
  obtain ⟨d, e, hd, he, pd, pe, dp, q⟩ := h
  obtain ⟨as, r1⟩ := Dp.reads I d x v hd rx
  obtain ⟨bs, r2⟩ := Dp.reads I e y u he ry
  refine PySem.SeqAt.eq_plain r1 r2 pd pe (by have := Nat.min_le_left d.depth e.depth; omega) ⟨.bl _, H, I, rfl, q⟩
theorem op_neP {X : Cx} (hu : X.A.units + 64 < cLine) : OpR X (compareOp .NotEq) (rEqP X.K true) := by
  intro pins s σ H x y v u Q I rx ry h
  obtain ⟨d, e, hd, he, pd, pe, dp, q⟩ := h
  obtain ⟨as, r1⟩ := Dp.reads I d x v hd rx
  obtain ⟨bs, r2⟩ := Dp.reads I e y u he ry
  refine PySem.SeqAt.ne_plain r1 r2 pd pe (by have := Nat.min_le_left d.depth e.depth; omega) ⟨.bl _, H, I, rfl, q⟩
theorem sem_eq : Sem2 K eqV (rEqP K false) := by
  intro m O H x y u v w Q f rx ry e k
  unfold eqV at e
  split at e
  · rename_i h
    cases e
    have a := pl_plain _ _ h.1
    have b := pl_plain _ _ h.2
    exact ⟨_, _, rep_unref f rx h.1, rep_unref f ry h.2, a.1, b.1, a.2, k m H _ (Ext.refl _ _) f (.bl _)⟩
  · cases e
theorem sem_ne : Sem2 K neV (rEqP K true) := by
  intro m O H x y u v w Q f rx ry e k
  unfold neV at e
  split at e
  · rename_i h
    cases e
    have a := pl_plain _ _ h.1
    have b := pl_plain _ _ h.2
    exact ⟨_, _, rep_unref f rx h.1, rep_unref f ry h.2, a.1, b.1, a.2, k m H _ (Ext.refl _ _) f (.bl _)⟩
  · cases e
end
end TV
end
-- V3
section
set_option Elab.async false
set_option linter.all false
set_option maxRecDepth 100000
set_option maxHeartbeats 2000000
/-! V3: the rules of expressions. -/
namespace TV
open PySem L2
open TB (SqF NewT Ctx FCtx GK lk pt RelKV tOrE)
section
variable {K : PySem.W.Frag} {m : List Addr} {H : Hp} {Γ : Ga} {O O1 O2 O3 : So} {σ : L2.St} {Q : VK} {ma mb mc : Ex}
/-- both operands, by what they give -/
theorem op_at {x y : Va} {r : R2} (f : Fit K m O H) (s : SFit K m H Γ σ) (h1 : ma Γ O = some (x, O1)) (h2 : mb Γ O1 = some (y, O2)) (hr : ∀ m2 H2 u v, Ext m H m2 H2 → Fit K m2 O2 H2 → Rep K m2 H2 x u → Rep K m2 H2 y v → r u v H2 Q) :
    tOp r (TEm K ma) (TEm K mb) σ H Q :=
  ⟨m, Γ, O, x, O1, f, s, h1, fun m1 H1 u1 x1 f1 r1 => ⟨m1, Γ, O1, y, O2, f1, s.ext x1, h2, fun m2 H2 u2 x2 f2 r2 => hr m2 H2 u1 u2 (x1.trans x2) f2 (r1.ext x2) r2⟩⟩
theorem mOp_some {f : So → Va → Va → Option Va} {w : Va} (h : mOp f ma mb Γ O = some (w, O2)) : ∃ x O1 y, ma Γ O = some (x, O1) ∧ mb Γ O1 = some (y, O2) ∧ f O2 x y = some w := by
  unfold mOp at h
  split at h
  · rename_i x O1 h1
    split at h
    · rename_i y O2 h2
      split at h
      · rename_i v h3
        obtain ⟨rfl, rfl⟩ := Prod.mk.inj (Option.some.inj h)
        exact ⟨x, O1, y, h1, h2, h3⟩
      · cases h
    · cases h
  · cases h
theorem mUn_some {f : So → Va → Option Va} {w : Va} (h : mUn f ma Γ O = some (w, O2)) : ∃ x, ma Γ O = some (x, O2) ∧ f O2 x = some w := by
  unfold mUn at h
  split at h
  · rename_i x O1 h1
    split at h
    · rename_i v h3
      obtain ⟨rfl, rfl⟩ := Prod.mk.inj (Option.some.inj h)
      exact ⟨x, h1, h3⟩
    · cases h
  · cases h
theorem t_test {t : TE} {me : Ex} (h : ∀ σ H Q, TEm K me σ H Q → t σ H Q) : ∀ σ H Q, TTm K (mB me) σ H Q → tTest t σ H Q := by
  rintro σ H Q ⟨m, Γ, O, b, O', f, s, e, k⟩
  unfold mB at e
  split at e
  · rename_i c O1 h1
    obtain ⟨rfl, rfl⟩ := Prod.mk.inj (Option.some.inj e)
    refine h σ H _ ⟨m, Γ, O, _, _, f, s, h1, fun m' H' v x f' r => ?_⟩
    cases r
    exact ⟨_, rfl, k m' H' x f'⟩
  · cases e
/-! in -/
def rInP (K : PySem.W.Frag) (neg : Bool) : R2 := fun x y H Q => ∃ d ds, Dp K H x d ∧ (Dp K H y (.list ds) ∨ Dp K H y (.tuple ds)) ∧ d.plain = true ∧ PyData.plainAll ds = true ∧ d.depth ≤ 60 ∧ Q (.bl (if neg then !(ds.any fun e => PyData.eqv e d) else ds.any fun e => PyData.eqv e d)) H
theorem op_inP {X : Cx} (hu : X.A.units + 64 < cLine) : OpR X (compareOp .In) (rInP X.K false) := by
  intro pins s σ H x y v u Q I rx ry h
  obtain ⟨d, e, hd, he, pd, pe, dp, q⟩ := h
  obtain ⟨as, r1⟩ := Dp.reads I d x v hd rx
  have hl := Nat.min_le_right (PyData.depthAll e) d.depth
  rcases he with he | he
  · obtain ⟨bs, r2⟩ := Dp.reads I _ y u he ry
    exact PySem.SeqAt.in_list_data r2 r1 pe pd (by omega) ⟨.bl _, H, I, rfl, q⟩
  · obtain ⟨bs, r2⟩ := Dp.reads I _ y u he ry
    exact PySem.SeqAt.in_tuple_data r2 r1 pe pd (by omega) ⟨.bl _, H, I, rfl, q⟩
theorem op_notInP {X : Cx} (hu : X.A.units + 64 < cLine) : OpR X (compareOp .NotIn) (rInP X.K true) := by
  intro pins s σ H x y v u Q I rx ry h
  obtain ⟨d, e, hd, he, pd, pe, dp, q⟩ := h
  obtain ⟨as, r1⟩ := Dp.reads I d x v hd rx
  have hl := Nat.min_le_right (PyData.depthAll e) d.depth
  rcases he with he | he
  · obtain ⟨bs, r2⟩ := Dp.reads I _ y u he ry
    exact PySem.SeqAt.notIn_list_data r2 r1 pe pd (by omega) ⟨.bl _, H, I, rfl, q⟩
  · obtain ⟨bs, r2⟩ := Dp.reads I _ y u he ry
    exact PySem.SeqAt.notIn_tuple_data r2 r1 pe pd (by omega) ⟨.bl _, H, I, rfl, q⟩
def tInM (K : PySem.W.Frag) (neg : Bool) (ta tb : TE) : TE := tOrE (tOp (fun x y H Q => rInP K neg x y H Q ∨ TB.rInG neg x y H Q) ta tb) (if neg then tDNotIn ta tb else tDIn ta tb)
theorem inB_some {x y : Va} {b : Bool} (h : inB O x y = some b) :
    (∃ kvs k, asD O y = some kvs ∧ keyOf x = some k ∧ b = (lk kvs k).isSome) ∨ (∃ vs, asQ O y = some vs ∧ pl 60 x = true ∧ plAll 60 vs = true ∧ b = vs.any fun w => veq w x) ∨
    ∃ (c : Nat) (z : Str), x = .str ⟨#[c]⟩ ∧ y = .str z ∧ b = decide (c ∈ z.cps.toList) := by
  unfold inB at h
  split at h
  · rename_i kvs hd
    cases hk : keyOf x with
    | none => rw [hk] at h; cases h
    | some k => rw [hk] at h; cases h; exact Or.inl ⟨kvs, k, hd, rfl, rfl⟩
  · split at h
    · rename_i vs hq
      split at h
      · rename_i hp
        cases h
        exact Or.inr (Or.inl ⟨vs, hq, hp.1, hp.2, rfl⟩)
      · cases h
    · split at h
      · rename_i s t _ _
        split at h
        · rename_i c hc
          cases h
          refine Or.inr (Or.inr ⟨c, t, ?_, rfl, rfl⟩)
          obtain ⟨⟨l⟩⟩ := s
          have : l = [c] := hc
          subst this; rfl
        · cases h
      · cases h
theorem asQ_dp {v : Va} {u : V} {vs : List Va} (f : Fit K m O H) (e : asQ O v = some vs) (p : plAll 60 vs = true) (r : Rep K m H v u) : Dp K H u (.list (toDs vs)) ∨ Dp K H u (.tuple (toDs vs)) := by
  obtain ⟨a, xs, rfl, h, rs⟩ := rep_Q f e r
  rcases h with h | h
  · exact Or.inl (.lst h (reps_dp rs p))
  · exact Or.inr (.tup h (reps_dp rs p))
theorem veq_any (vs : List Va) (x : Va) : (toDs vs).any (fun e => PyData.eqv e (toD x)) = vs.any fun w => veq w x := by
  rw [toDs_eq, List.any_map]; rfl
theorem t_in : ∀ σ H Q, TEm K (mOp inV ma mb) σ H Q → tInM K false (TEm K ma) (TEm K mb) σ H Q := by
  rintro σ H Q ⟨m, Γ, O, w, O', f, s, e, k⟩
  obtain ⟨x, O1, y, h1, h2, h3⟩ := mOp_some e
  cases hb : inB O' x y with
  | none => rw [inV, hb] at h3; cases h3
  | some b =>
    rw [inV, hb] at h3; cases h3
    rcases inB_some hb with ⟨kvs, kk, e1, e2, rfl⟩ | ⟨vs, e1, p1, p2, rfl⟩ | ⟨c, z, rfl, rfl, rfl⟩
    · refine Or.inr ⟨m, Γ, O, x, O1, f, s, h1, fun m1 H1 u1 x1 f1 r1 => ⟨m1, Γ, O1, y, O', f1, s.ext x1, h2, fun m2 H2 u2 x2 f2 r2 => ?_⟩⟩
      obtain ⟨a, kv, rfl, hd, rk⟩ := rep_D f2 e1 r2
      have hk := rep_key e2 (r1.ext x2)
      subst hk
      refine ⟨a, _, rfl, Or.inl ⟨kv, kk, hd, rfl, rfl⟩, ?_⟩
      rw [rk.rel.isSome]
      exact k m2 H2 _ (x1.trans x2) f2 (.bl _)
    · refine Or.inl (op_at f s h1 h2 fun m2 H2 u v xx f2 ru rv => Or.inl ⟨_, _, rep_dp ru p1, asQ_dp f2 e1 p2 rv, (pl_plain _ _ p1).1, (plAll_plain _ _ p2).1, (pl_plain _ _ p1).2, ?_⟩)
      rw [if_neg (by decide), veq_any]
      exact k m2 H2 _ xx f2 (.bl _)
    · refine Or.inl (op_at f s h1 h2 fun m2 H2 u v xx f2 ru rv => Or.inr ?_)
      cases ru; cases rv
      exact ⟨c, z, rfl, rfl, k m2 H2 _ xx f2 (.bl _)⟩
theorem t_notin : ∀ σ H Q, TEm K (mOp notInV ma mb) σ H Q → tInM K true (TEm K ma) (TEm K mb) σ H Q := by
  rintro σ H Q ⟨m, Γ, O, w, O', f, s, e, k⟩
  obtain ⟨x, O1, y, h1, h2, h3⟩ := mOp_some e
  cases hb : inB O' x y with
  | none => rw [notInV, hb] at h3; cases h3
  | some b =>
    rw [notInV, hb] at h3; cases h3
    rcases inB_some hb with ⟨kvs, kk, e1, e2, rfl⟩ | ⟨vs, e1, p1, p2, rfl⟩ | ⟨c, z, rfl, rfl, rfl⟩
    · refine Or.inr ⟨m, Γ, O, x, O1, f, s, h1, fun m1 H1 u1 x1 f1 r1 => ⟨m1, Γ, O1, y, O', f1, s.ext x1, h2, fun m2 H2 u2 x2 f2 r2 => ?_⟩⟩
      obtain ⟨a, kv, rfl, hd, rk⟩ := rep_D f2 e1 r2
      have hk := rep_key e2 (r1.ext x2)
      subst hk
      refine ⟨a, _, rfl, Or.inl ⟨kv, kk, hd, rfl, rfl⟩, ?_⟩
      rw [rk.rel.isSome]
      exact k m2 H2 _ (x1.trans x2) f2 (.bl _)
    · refine Or.inl (op_at f s h1 h2 fun m2 H2 u v xx f2 ru rv => Or.inl ⟨_, _, rep_dp ru p1, asQ_dp f2 e1 p2 rv, (pl_plain _ _ p1).1, (plAll_plain _ _ p2).1, (pl_plain _ _ p1).2, ?_⟩)
      rw [if_pos rfl, veq_any]
      exact k m2 H2 _ xx f2 (.bl _)
    · refine Or.inl (op_at f s h1 h2 fun m2 H2 u v xx f2 ru rv => Or.inr ?_)
      cases ru; cases rv
      exact ⟨c, z, rfl, rfl, k m2 H2 _ xx f2 (.bl _)⟩
/-! subscripts -/
theorem atI_reps {vs : List Va} {xs : List V} {i : Int} {w : Va} (r : Reps K m H vs xs) (e : atI vs i = some w) : ∃ x, atI xs i = some x ∧ Rep K m H w x := by
  unfold atI at e ⊢
  rw [← r.length]
  cases h : ixN vs.length i with
  | none => rw [h] at e; cases e
  | some j => rw [h] at e; exact r.get e
theorem t_ix : ∀ σ H Q, TEm K (mOp ixV ma mb) σ H Q → TB.tIx K (TEm K ma) (TEm K mb) σ H Q := by
  rintro σ H Q ⟨m, Γ, O, w, O', f, s, e, k⟩
  obtain ⟨x, O1, y, h1, h2, h3⟩ := mOp_some e
  unfold ixV at h3
  split at h3
  · rename_i kvs hd
    cases hk : keyOf y with
    | none => rw [hk] at h3; cases h3
    | some kk =>
      rw [hk] at h3
      refine Or.inr ⟨m, Γ, O, x, O1, f, s, h1, fun m1 H1 u1 x1 f1 r1 => ⟨m1, Γ, O1, y, O', f1, s.ext x1, h2, fun m2 H2 u2 x2 f2 r2 => ?_⟩⟩
      obtain ⟨a, kv, rfl, hd, rk⟩ := rep_D f2 hd (r1.ext x2)
      have hk := rep_key hk r2
      subst hk
      obtain ⟨v, ev, rv⟩ := rk.rel.get _ h3
      exact ⟨a, v, rfl, Or.inl ⟨kv, kk, hd, rfl, ev.symm⟩, k m2 H2 _ (x1.trans x2) f2 rv⟩
  · split at h3
    · rename_i i
      split at h3
      · rename_i vs hq
        refine Or.inl (op_at f s h1 h2 fun m2 H2 u v xx f2 ru rv => ?_)
        cases rv
        obtain ⟨a, xs, rfl, h, rs⟩ := rep_Q f2 hq ru
        obtain ⟨z, ez, rz⟩ := atI_reps rs h3
        have q := k m2 H2 z xx f2 rz
        rcases h with h | h
        · exact Or.inl ⟨a, xs, i, z, rfl, rfl, h, ez, q⟩
        · exact Or.inr (Or.inl ⟨a, xs, i, z, rfl, rfl, h, ez, q⟩)
      · split at h3
        · rename_i z _ _
          split at h3
          · rename_i hz
            cases hc : atI z.cps.toList i with
            | none => rw [hc] at h3; cases h3
            | some c =>
              rw [hc] at h3; cases h3
              refine Or.inl (op_at f s h1 h2 fun m2 H2 u v xx f2 ru rv => ?_)
              cases ru; cases rv
              exact Or.inr (Or.inr ⟨z, i, c, rfl, rfl, hz, hc, k m2 H2 _ xx f2 (.str _)⟩)
          · cases h3
        · cases h3
    · cases h3
/-! slices -/
theorem t_none : ∀ σ H Q, TOm K mNone σ H Q → tNoPart σ H Q := by
  rintro σ H Q ⟨m, Γ, O, w, O', f, s, e, k⟩
  cases e
  exact k m H (Ext.refl _ _) f
theorem t_some : ∀ σ H Q, TOm K (mSome ma) σ H Q → tPart (TEm K ma) σ H Q := by
  rintro σ H Q ⟨m, Γ, O, w, O', f, s, e, k⟩
  unfold mSome at e
  split at e
  · rename_i i O1 h1
    obtain ⟨rfl, rfl⟩ := Prod.mk.inj (Option.some.inj e)
    refine ⟨m, Γ, O, _, _, f, s, h1, fun m' H' v x f' r => ?_⟩
    cases r
    exact ⟨i, rfl, k m' H' x f'⟩
  · cases e
theorem cut_reps {vs : List Va} {xs : List V} {lo hi : Option Int} (r : Reps K m H vs xs) : Reps K m H (cut vs lo hi) (cutV xs lo hi) := by
  unfold cut cutV
  rw [← r.length]
  exact (r.drop _).take _
theorem t_sl {lo hi : Ox} : ∀ σ H Q, TRm K (mSl ma lo hi) σ H Q → tSl (TB.rSlB K) (TEm K ma) (TOm K lo) (TOm K hi) σ H Q := by
  rintro σ H Q ⟨m, Γ, O, w, O', f, s, e, k⟩
  unfold mSl at e
  split at e
  · rename_i x O1 h1
    split at e
    · rename_i l O2 h2
      split at e
      · rename_i h O3 h3
        split at e
        · rename_i v hv
          obtain ⟨rfl, rfl⟩ := Prod.mk.inj (Option.some.inj e)
          refine ⟨m, Γ, O, x, O1, f, s, h1, fun m1 H1 u1 x1 f1 r1 => ⟨m1, Γ, O1, l, O2, f1, s.ext x1, h2, fun m2 H2 x2 f2 => ⟨m2, Γ, O2, h, O3, f2, (s.ext x1).ext x2, h3, fun m3 H3 x3 f3 => ?_⟩⟩⟩
          have r3 := r1.ext (x2.trans x3)
          have xx := x1.trans (x2.trans x3)
          unfold slV at hv
          split at hv
          · rename_i vs
            cases hv
            cases r3 with
            | @tup a xs _ ha ra =>
              refine Or.inl ⟨a, xs, rfl, ha.t, fun z => ?_, fun _ => newT f3 (cut_reps ra) fun m' H' z a b c => k m' H' z (xx.trans a) b (Or.inl c)⟩
              have hc : cut vs l h = vs := by
                unfold cut
                rw [ra.length, z.1, z.2, List.drop_zero, Nat.sub_zero, ← ra.length, List.take_length]
              rw [hc] at k
              exact k m3 H3 _ xx f3 (Or.inl (.tup ha ra))
          · cases hl : asL O3 x with
            | none => rw [hl] at hv; cases hv
            | some vs =>
              rw [hl] at hv; cases hv
              obtain ⟨a, xs, rfl, ha, ra⟩ := rep_L f3 hl r3
              refine Or.inr ⟨a, xs, rfl, ha.l, fun p np => ?_⟩
              obtain ⟨h1, h2, h3⟩ := Raw.new f3 np (cut_reps (lo := l) (hi := h) ra)
              exact k m3 _ _ (xx.trans h1) h2 (Or.inr (h3.since xx f3))
        · cases e
      · cases e
    · cases e
  · cases e
/-! truth -/
theorem t_andV : ∀ σ H Q, TEm K (mAnd ma mb) σ H Q → tAndV (TEm K ma) (TEm K mb) σ H Q := by
  rintro σ H Q ⟨m, Γ, O, w, O', f, s, e, k⟩
  unfold mAnd at e
  split at e
  · rename_i O1 h1
    refine ⟨m, Γ, O, _, O1, f, s, h1, fun m1 H1 u1 x1 f1 r1 => ?_⟩
    cases r1
    exact ⟨true, rfl, by rw [if_pos rfl]; exact ⟨m1, Γ, O1, w, O', f1, s.ext x1, e, fun m2 H2 z x2 f2 r2 => k m2 H2 z (x1.trans x2) f2 r2⟩⟩
  · rename_i O1 h1
    obtain ⟨rfl, rfl⟩ := Prod.mk.inj (Option.some.inj e)
    refine ⟨m, Γ, O, _, O1, f, s, h1, fun m1 H1 u1 x1 f1 r1 => ?_⟩
    cases r1
    exact ⟨false, rfl, by rw [if_neg (by decide)]; exact k m1 H1 _ x1 f1 (.bl _)⟩
  · cases e
theorem t_orV : ∀ σ H Q, TEm K (mOr ma mb) σ H Q → tOrV (TEm K ma) (TEm K mb) σ H Q := by
  rintro σ H Q ⟨m, Γ, O, w, O', f, s, e, k⟩
  unfold mOr at e
  split at e
  · rename_i O1 h1
    obtain ⟨rfl, rfl⟩ := Prod.mk.inj (Option.some.inj e)
    refine ⟨m, Γ, O, _, O1, f, s, h1, fun m1 H1 u1 x1 f1 r1 => ?_⟩
    cases r1
    exact ⟨true, rfl, by rw [if_pos rfl]; exact k m1 H1 _ x1 f1 (.bl _)⟩
  · rename_i O1 h1
    refine ⟨m, Γ, O, _, O1, f, s, h1, fun m1 H1 u1 x1 f1 r1 => ?_⟩
    cases r1
    exact ⟨false, rfl, by rw [if_neg (by decide)]; exact ⟨m1, Γ, O1, w, O', f1, s.ext x1, e, fun m2 H2 z x2 f2 r2 => k m2 H2 z (x1.trans x2) f2 r2⟩⟩
  · cases e
theorem t_and {ta tb : Tx} : ∀ σ H Q, TTm K (tAnd ta tb) σ H Q → L2.tAnd (TTm K ta) (TTm K tb) σ H Q := by
  rintro σ H Q ⟨m, Γ, O, w, O', f, s, e, k⟩
  unfold tAnd at e
  split at e
  · rename_i O1 h1
    exact ⟨m, Γ, O, _, O1, f, s, h1, fun m1 H1 x1 f1 => by dsimp only; rw [if_pos rfl]; exact ⟨m1, Γ, O1, w, O', f1, s.ext x1, e, fun m2 H2 x2 f2 => k m2 H2 (x1.trans x2) f2⟩⟩
  · rename_i O1 h1
    obtain ⟨rfl, rfl⟩ := Prod.mk.inj (Option.some.inj e)
    exact ⟨m, Γ, O, _, O1, f, s, h1, fun m1 H1 x1 f1 => by dsimp only; rw [if_neg (by decide)]; exact k m1 H1 x1 f1⟩
  · cases e
theorem t_or {ta tb : Tx} : ∀ σ H Q, TTm K (tOr ta tb) σ H Q → L2.tOr (TTm K ta) (TTm K tb) σ H Q := by
  rintro σ H Q ⟨m, Γ, O, w, O', f, s, e, k⟩
  unfold tOr at e
  split at e
  · rename_i O1 h1
    obtain ⟨rfl, rfl⟩ := Prod.mk.inj (Option.some.inj e)
    exact ⟨m, Γ, O, _, O1, f, s, h1, fun m1 H1 x1 f1 => by dsimp only; rw [if_pos rfl]; exact k m1 H1 x1 f1⟩
  · rename_i O1 h1
    exact ⟨m, Γ, O, _, O1, f, s, h1, fun m1 H1 x1 f1 => by dsimp only; rw [if_neg (by decide)]; exact ⟨m1, Γ, O1, w, O', f1, s.ext x1, e, fun m2 H2 x2 f2 => k m2 H2 (x1.trans x2) f2⟩⟩
  · cases e
theorem t_not {ta : Tx} : ∀ σ H Q, TTm K (tNot ta) σ H Q → L2.tNot (TTm K ta) σ H Q := by
  rintro σ H Q ⟨m, Γ, O, w, O', f, s, e, k⟩
  unfold tNot at e
  split at e
  · rename_i b O1 h1
    obtain ⟨rfl, rfl⟩ := Prod.mk.inj (Option.some.inj e)
    exact ⟨m, Γ, O, _, O1, f, s, h1, fun m1 H1 x1 f1 => k m1 H1 x1 f1⟩
  · cases e
theorem t_if {tc : Tx} : ∀ σ H Q, TEm K (mIf tc ma mb) σ H Q → L2.tIf (TTm K tc) (TEm K ma) (TEm K mb) σ H Q := by
  rintro σ H Q ⟨m, Γ, O, w, O', f, s, e, k⟩
  unfold mIf at e
  split at e
  · rename_i O1 h1
    exact ⟨m, Γ, O, _, O1, f, s, h1, fun m1 H1 x1 f1 => by dsimp only; rw [if_pos rfl]; exact ⟨m1, Γ, O1, w, O', f1, s.ext x1, e, fun m2 H2 z x2 f2 r2 => k m2 H2 z (x1.trans x2) f2 r2⟩⟩
  · rename_i O1 h1
    exact ⟨m, Γ, O, _, O1, f, s, h1, fun m1 H1 x1 f1 => by dsimp only; rw [if_neg (by decide)]; exact ⟨m1, Γ, O1, w, O', f1, s.ext x1, e, fun m2 H2 z x2 f2 r2 => k m2 H2 z (x1.trans x2) f2 r2⟩⟩
  · cases e
theorem t_chain {f g : So → Va → Va → Option Va} {r r' : R2} (hr : Sem2 K f r) (hr' : Sem2 K g r') : ∀ σ H Q, TEm K (mChain f g ma mb mc) σ H Q → tChain r r' (TEm K ma) (TEm K mb) (TEm K mc) σ H Q := by
  rintro σ H Q ⟨m, Γ, O, w, O', ft, s, e, k⟩
  unfold mChain at e
  split at e
  · rename_i x O1 h1
    split at e
    · rename_i y O2 h2
      refine ⟨m, Γ, O, x, O1, ft, s, h1, fun m1 H1 u1 x1 f1 r1 => ⟨m1, Γ, O1, y, O2, f1, s.ext x1, h2, fun m2 H2 u2 x2 f2 r2 => ?_⟩⟩
      split at e
      · rename_i h3
        refine hr m2 O2 H2 x y u1 u2 _ _ f2 (r1.ext x2) r2 h3 fun m3 H3 z x3 f3 r3 => ?_
        cases r3
        refine ⟨true, rfl, ?_⟩
        rw [if_pos rfl]
        split at e
        · rename_i z O3 h4
          split at e
          · rename_i v h5
            obtain ⟨rfl, rfl⟩ := Prod.mk.inj (Option.some.inj e)
            exact ⟨m3, Γ, O2, z, O3, f3, s.ext ((x1.trans x2).trans x3), h4, fun m4 H4 u4 x4 f4 r4 => hr' m4 O3 H4 y z u2 u4 _ _ f4 (r2.ext (x3.trans x4)) r4 h5 fun m5 H5 z x5 f5 r5 => k m5 H5 z ((((x1.trans x2).trans x3).trans x4).trans x5) f5 r5⟩
          · cases e
        · cases e
      · rename_i h3
        obtain ⟨rfl, rfl⟩ := Prod.mk.inj (Option.some.inj e)
        refine hr m2 O2 H2 x y u1 u2 _ _ f2 (r1.ext x2) r2 h3 fun m3 H3 z x3 f3 r3 => ?_
        cases r3
        refine ⟨false, rfl, ?_⟩
        rw [if_neg (by decide)]
        exact k m3 H3 _ ((x1.trans x2).trans x3) f3 (.bl _)
      · cases e
    · cases e
  · cases e
end
/-! ### the rules -/
section
variable {X : Cx} {P : Program} {w : World} {K : PySem.W.Frag} {mg : Str → Option Value} {base : Heap} {N : List Str} {sc : Scope} {lv : Nat} {a b c e : Expr} {es : List Expr} {ma mb mc : Ex} {mx : Ax} {ta tb : Tx} {pos : Pos}
theorem d_var (C : Ctx X P w K mg base N sc lv) (i : Nat) {x : Str} (h : N[i]? = some x := by rfl) (hv : Vis sc x := by first | exact Or.inl rfl | exact Or.inr (Or.inl rfl) | exact Or.inr (Or.inr rfl))
    (hd : (x == ("__debug__" : Str)) = false := by decide) (hcd : (x == ("__classdict__" : Str)) = false := by decide) : PE X (.Name x pos) (TEm K (mVar i)) := (TB.q_var C i h hv hd hcd).weak t_var
theorem d_int {i : Int} {j : Nat} : PE X (.Constant (.int i) j pos) (TEm K (mC (.int i))) := pe_int.weak (t_c fun _ _ => .int i)
theorem d_bl {i : Bool} {j : Nat} : PE X (.Constant (.bool i) j pos) (TEm K (mC (.bool i))) := pe_bl.weak (t_c fun _ _ => .bl i)
theorem d_non {j : Nat} : PE X (.Constant .none j pos) (TEm K (mC .none)) := pe_non.weak (t_c fun _ _ => .non)
theorem d_str {x : Str} {j : Nat} : PE X (.Constant (.str x) j pos) (TEm K (mC (.str x))) := pe_str.weak (t_c fun _ _ => .str x)
/-- a constant of the module -/
def GlobR (K : PySem.W.Frag) (mg : Str → Option Value) (x : Str) (v : Va) : Prop := ∃ (y : V) (u : Value), mg x = some u ∧ RelV y u ∧ ∀ m H, Rep K m H v y
theorem d_glob (C : Ctx X P w K mg base N sc lv) {x : Str} {v : Va} (h : GlobR K mg x v) (hg : GK sc x := by rfl) (hd : (x == ("__debug__" : Str)) = false := by decide) : PE X (.Name x pos) (TEm K (mC v)) := by
  obtain ⟨y, u, h1, h2, h3⟩ := h
  exact (TB.q_glob C h1 h2 hg hd).weak (t_c h3)
theorem d_nil : PA X [] (TAm K aNil) := pa_nil.weak t_nil
theorem d_cons (ha : PE X e (TEm K ma)) (hr : PA X es (TAm K mx)) (hs : starEach (e :: es) X.env = (false, eval e X.env) :: starEach es X.env := by rfl) : PA X (e :: es) (TAm K (aCons ma mx)) := (pa_cons ha hr hs).weak t_cons
theorem d_tup {x1 : Nat} (h : PA X es (TAm K mx)) : PE X (.Tuple es x1 pos) (TEm K (mTup mx)) := (TB.pe_tupF h).weak t_tup
/-- a new list: not locked, locked, followed -/
theorem d_lstF (h : PA X es (TAm K mx)) : PE X (.List es pos) (TFm K (mLst mx)) := (pe_lst h).weak t_lst
theorem d_add (C : Ctx X P w K mg base N sc lv) (ha : PE X a (TEm K ma)) (hb : PE X b (TEm K mb)) : PE X (.BinOp a .Add b pos) (TEm K (mOp addV ma mb)) := d_lk ((TB.q_add C ha hb).weak (t_opR sem_add))
theorem d_mul (C : Ctx X P w K mg base N sc lv) (ha : PE X a (TEm K ma)) (hb : PE X b (TEm K mb)) : PE X (.BinOp a .Mult b pos) (TEm K (mOp mulV ma mb)) := by
  have := C.hK; subst this; exact d_lk ((pe_op op_mulX ha hb).weak (t_opR sem_mul))
theorem d_sub (ha : PE X a (TEm K ma)) (hb : PE X b (TEm K mb)) : PE X (.BinOp a .Sub b pos) (TEm K (mOp subV ma mb)) := (pe_op op_sub ha hb).weak (t_op sem_sub)
theorem op_quo {X : Cx} : OpR X (binaryOp .FloorDiv) (rI CDivP fun i j => .int (i / j)) := opI fun i j _ _ _ _ _ hd hk => by
  obtain ⟨hpos, hpy⟩ := hd
  refine PyProof.Rows.floordiv_int (by omega) ?_ (Or.inl hpy)
  rw [Int.fdiv_eq_ediv_of_nonneg i (by omega)]
  exact hk
theorem d_div (ha : PE X a (TEm K ma)) (hb : PE X b (TEm K mb)) : PE X (.BinOp a .FloorDiv b pos) (TEm K (mOp divV ma mb)) := (pe_op op_quo ha hb).weak (t_op sem_div)
theorem d_mod (ha : PE X a (TEm K ma)) (hb : PE X b (TEm K mb)) : PE X (.BinOp a .Mod b pos) (TEm K (mOp modV ma mb)) := (pe_op op_mod ha hb).weak (t_op sem_mod)
theorem d_pow (ha : PE X a (TEm K ma)) (hb : PE X b (TEm K mb)) : PE X (.BinOp a .Pow b pos) (TEm K (mOp powV ma mb)) := (pe_op op_pow ha hb).weak (t_op sem_pow)
theorem d_lt (ha : PE X a (TEm K ma)) (hb : PE X b (TEm K mb)) : PE X (.Compare a [.Lt] [b] pos) (TEm K (mOp ltV ma mb)) := (pe_cmpR op_ltA ha hb (nomark _)).weak (t_op sem_lt)
theorem d_le (ha : PE X a (TEm K ma)) (hb : PE X b (TEm K mb)) : PE X (.Compare a [.LtE] [b] pos) (TEm K (mOp leV ma mb)) := (pe_cmpR op_leA ha hb (nomark _)).weak (t_op sem_le)
theorem d_is (ha : PE X a (TEm K ma)) (hb : PE X b (TEm K mb)) : PE X (.Compare a [.Is] [b] pos) (TEm K (mOp isV ma mb)) := (pe_cmpR op_isN ha hb (nomark _)).weak (t_op sem_is)
theorem dt_le (ha : PE X a (TEm K ma)) (hb : PE X b (TEm K mb)) : PT X (.Compare a [.LtE] [b] pos) (TTm K (mB (mOp leV ma mb))) := (pt_cmpR op_leA ha hb (nomark _)).weak (t_test (t_op sem_le))
theorem dt_gt (ha : PE X a (TEm K ma)) (hb : PE X b (TEm K mb)) : PT X (.Compare a [.Gt] [b] pos) (TTm K (mB (mOp gtV ma mb))) := (pt_cmpR op_gtA ha hb (nomark _)).weak (t_test (t_op sem_gt))
theorem dt_ge (ha : PE X a (TEm K ma)) (hb : PE X b (TEm K mb)) : PT X (.Compare a [.GtE] [b] pos) (TTm K (mB (mOp geV ma mb))) := (pt_cmpR op_geA ha hb (nomark _)).weak (t_test (t_op sem_ge))
theorem d_eq (C : Ctx X P w K mg base N sc lv) (ha : PE X a (TEm K ma)) (hb : PE X b (TEm K mb)) : PE X (.Compare a [.Eq] [b] pos) (TEm K (mOp eqV ma mb)) := by
  have := C.hK; subst this; exact (pe_cmpR (op_eqP C.hu) ha hb (nomark _)).weak (t_op sem_eq)
theorem d_ne (C : Ctx X P w K mg base N sc lv) (ha : PE X a (TEm K ma)) (hb : PE X b (TEm K mb)) : PE X (.Compare a [.NotEq] [b] pos) (TEm K (mOp neV ma mb)) := by
  have := C.hK; subst this; exact (pe_cmpR (op_neP C.hu) ha hb (nomark _)).weak (t_op sem_ne)
theorem dt_eq (C : Ctx X P w K mg base N sc lv) (ha : PE X a (TEm K ma)) (hb : PE X b (TEm K mb)) : PT X (.Compare a [.Eq] [b] pos) (TTm K (mB (mOp eqV ma mb))) := by
  have := C.hK; subst this; exact (pt_cmpR (op_eqP C.hu) ha hb (nomark _)).weak (t_test (t_op sem_eq))
theorem dt_ne (C : Ctx X P w K mg base N sc lv) (ha : PE X a (TEm K ma)) (hb : PE X b (TEm K mb)) : PT X (.Compare a [.NotEq] [b] pos) (TTm K (mB (mOp neV ma mb))) := by
  have := C.hK; subst this; exact (pt_cmpR (op_neP C.hu) ha hb (nomark _)).weak (t_test (t_op sem_ne))
theorem dc_in (C : Ctx X P w K mg base N sc lv) (ha : PE X a (TEm K ma)) (hb : PE X b (TEm K mb)) : PC X .In a b (tInM K false (TEm K ma) (TEm K mb)) := by
  have hu := C.hu
  have := C.hK; subst this
  exact TB.pc_or (TB.pc_op ((op_inP hu).or op_in_sign) ha hb) (pc_din (by omega) ha hb)
theorem dc_notin (C : Ctx X P w K mg base N sc lv) (ha : PE X a (TEm K ma)) (hb : PE X b (TEm K mb)) : PC X .NotIn a b (tInM K true (TEm K ma) (TEm K mb)) := by
  have hu := C.hu
  have := C.hK; subst this
  exact TB.pc_or (TB.pc_op ((op_notInP hu).or op_notIn_sign) ha hb) (pc_dnotin (by omega) ha hb)
theorem d_in (C : Ctx X P w K mg base N sc lv) (ha : PE X a (TEm K ma)) (hb : PE X b (TEm K mb)) (hm : behindInMarks .In b = false := by rfl) : PE X (.Compare a [.In] [b] pos) (TEm K (mOp inV ma mb)) := (pe_cmp (dc_in C ha hb) hm).weak t_in
theorem dt_in (C : Ctx X P w K mg base N sc lv) (ha : PE X a (TEm K ma)) (hb : PE X b (TEm K mb)) (hm : behindInMarks .In b = false := by rfl) : PT X (.Compare a [.In] [b] pos) (TTm K (mB (mOp inV ma mb))) := (pt_cmp (dc_in C ha hb) hm).weak (t_test t_in)
theorem dt_notin (C : Ctx X P w K mg base N sc lv) (ha : PE X a (TEm K ma)) (hb : PE X b (TEm K mb)) (hm : behindInMarks .NotIn b = false := by rfl) : PT X (.Compare a [.NotIn] [b] pos) (TTm K (mB (mOp notInV ma mb))) := (pt_cmp (dc_notin C ha hb) hm).weak (t_test t_notin)
theorem d_ix (C : Ctx X P w K mg base N sc lv) (ha : PE X a (TEm K ma)) (hb : PE X b (TEm K mb)) (hs : PlainIx b := by exact fun _ _ => rfl) : PE X (.Subscript a b pos) (TEm K (mOp ixV ma mb)) := (TB.q_ix C ha hb hs).weak t_ix
theorem _root_.L2.PO.weak {e : Option Expr} {t t' : TO} (h : PO X e t) (k : ∀ σ H Q, t' σ H Q → t σ H Q) : PO X e t' := ⟨fun pins s σ H Q I w => h.run pins s σ H Q I (k σ H Q w)⟩
theorem d_none : PO X none (TOm K mNone) := po_none.weak t_none
theorem d_some (ha : PE X a (TEm K ma)) : PO X (some a) (TOm K (mSome ma)) := (po_some ha).weak t_some
theorem d_sl (C : Ctx X P w K mg base N sc lv) {lo hi : Option Expr} {ml mh : Ox} {p2 : Pos} (ha : PE X a (TEm K ma)) (hl : PO X lo (TOm K ml)) (hh : PO X hi (TOm K mh)) : PE X (.Subscript a (.Slice lo hi none p2) pos) (TEm K (mSl ma ml mh)) := d_lk ((TB.q_slice C ha hl hh).weak t_sl)
theorem d_one {op : BoolOp} (ha : PE X a (TEm K ma)) : PE X (.BoolOp op [a] pos) (TEm K ma) := pe_one ha
theorem d_and {r : List Expr} (ha : PE X a (TEm K ma)) (hb : PE X (.BoolOp .And (b :: r) pos) (TEm K mb)) : PE X (.BoolOp .And (a :: b :: r) pos) (TEm K (mAnd ma mb)) := (L2.pe_and ha hb).weak t_andV
theorem d_or {r : List Expr} (ha : PE X a (TEm K ma)) (hb : PE X (.BoolOp .Or (b :: r) pos) (TEm K mb)) : PE X (.BoolOp .Or (a :: b :: r) pos) (TEm K (mOr ma mb)) := (L2.pe_or ha hb).weak t_orV
theorem dw_and1 (ha : PT X a (TTm K ta)) : PW X (.BoolOp .And [a] pos) (TTm K ta) := pw_and1 ha
theorem dw_or1 (ha : PT X a (TTm K ta)) : PW X (.BoolOp .Or [a] pos) (TTm K ta) := pw_or1 ha
theorem dw_and {r : List Expr} (ha : PT X a (TTm K ta)) (hb : PW X (.BoolOp .And (b :: r) pos) (TTm K tb)) : PW X (.BoolOp .And (a :: b :: r) pos) (TTm K (tAnd ta tb)) := (pw_and ha hb).weak t_and
theorem dw_or {r : List Expr} (ha : PT X a (TTm K ta)) (hb : PW X (.BoolOp .Or (b :: r) pos) (TTm K tb)) : PW X (.BoolOp .Or (a :: b :: r) pos) (TTm K (tOr ta tb)) := (pw_or ha hb).weak t_or
theorem dt_not (ha : PT X a (TTm K ta)) : PT X (.UnaryOp .Not a pos) (TTm K (tNot ta)) := (pt_not ha).weak t_not
theorem dt_val (ha : PE X e (TEm K ma)) (he : ∀ whole, isTrue e X.env whole = (do let v ← whole; standAt e.pos; holding [v] (truthy v)) := by intro _; rfl) : PT X e (TTm K (mB ma)) := (pt_val ha he).weak (t_test fun _ _ _ h => h)
theorem d_if (hc : PT X c (TTm K ta)) (ha : PE X a (TEm K ma)) (hb : PE X b (TEm K mb)) : PE X (.IfExp c a b pos) (TEm K (mIf ta ma mb)) := (pe_ifExp hc ha hb).weak t_if
end
end TV
end
-- V4
section
set_option Elab.async false
set_option linter.all false
set_option maxRecDepth 100000
set_option maxHeartbeats 2000000
/-! V4: statements, targets, loops, comprehensions. -/
namespace TV
open PySem L2
open TB (SqF NewT Ctx FCtx GK lk pt RelKV tOrE tOrS)
inductive Fl where
  | nx (Γ : Ga) | rt (v : Va) | bk (Γ : Ga) | ct (Γ : Ga)
abbrev Sm := Ga → So → Option (Fl × So)
abbrev Tg := Va → Ga → Option Ga
abbrev Tgs := List Va → Ga → Option Ga
def sNext : Sm := fun Γ O => some (.nx Γ, O)
def sNever : Sm := fun _ _ => none
def sSeq (a b : Sm) : Sm := fun Γ O => match a Γ O with
  | some (.nx Γ1, O1) => b Γ1 O1
  | r => r
def sRet (e : Ex) : Sm := fun Γ O => match e Γ O with
  | some (v, O1) => some (.rt v, O1)
  | none => none
def sRetN : Sm := fun _ O => some (.rt .none, O)
def sDrop (e : Ex) : Sm := fun Γ O => match e Γ O with
  | some (_, O1) => some (.nx Γ, O1)
  | none => none
def sIf (c : Tx) (a b : Sm) : Sm := fun Γ O => match c Γ O with
  | some (true, O1) => a Γ O1
  | some (false, O1) => b Γ O1
  | none => none
def sAsg (e : Ex) (g : Tg) : Sm := fun Γ O => match e Γ O with
  | some (v, O1) => match g v Γ with
    | some Γ1 => some (.nx Γ1, O1)
    | none => none
  | none => none
def sPar (i j : Nat) (a : Ax) : Sm := fun Γ O => match a Γ O with
  | some ([x, y], O1) => some (.nx ((Γ.set i (some x)).set j (some y)), O1)
  | _ => none
def sPar3 (i j l : Nat) (a : Ax) : Sm := fun Γ O => match a Γ O with
  | some ([x, y, z], O1) => some (.nx (((Γ.set i (some x)).set j (some y)).set l (some z)), O1)
  | _ => none
def gN (i : Nat) : Tg := fun v Γ => some (Γ.set i (some v))
def gNl : Tgs := fun vs Γ => match vs with
  | [] => some Γ
  | _ => none
def gCs (g : Tg) (gs : Tgs) : Tgs := fun vs Γ => match vs with
  | v :: r => match g v Γ with
    | some Γ1 => gs r Γ1
    | none => none
  | _ => none
def gT (gs : Tgs) : Tg := fun v Γ => match v with
  | .tup vs => gs vs Γ
  | .lst vs => gs vs Γ
  | _ => none
/-- a for over given items -/
def forL (g : Tg) (b : Sm) : List Va → Sm
  | [], Γ, O => some (.nx Γ, O)
  | x :: xs, Γ, O => match g x Γ with
    | some Γ1 => match b Γ1 O with
      | some (.nx Γ2, O2) => forL g b xs Γ2 O2
      | some (.ct Γ2, O2) => forL g b xs Γ2 O2
      | some (.bk Γ2, O2) => some (.nx Γ2, O2)
      | some (.rt v, O2) => some (.rt v, O2)
      | none => none
    | none => none
def sFor (it : Ax) (g : Tg) (b : Sm) : Sm := fun Γ O => match it Γ O with
  | some (xs, O1) => forL g b xs Γ O1
  | none => none
/-- a while, by at most so many turns -/
def whN (c : Tx) (b : Sm) : Nat → Sm
  | 0, _, _ => none
  | n + 1, Γ, O => match c Γ O with
    | some (true, O1) => match b Γ O1 with
      | some (.nx Γ2, O2) => whN c b n Γ2 O2
      | some (.ct Γ2, O2) => whN c b n Γ2 O2
      | some (.bk Γ2, O2) => some (.nx Γ2, O2)
      | some (.rt v, O2) => some (.rt v, O2)
      | none => none
    | some (false, O1) => some (.nx Γ, O1)
    | none => none
open Classical in
noncomputable def sWhile (c : Tx) (b : Sm) : Sm := fun Γ O => if h : ∃ n r, whN c b n Γ O = some r then (whN c b h.choose Γ O) else none
/-- x[i] = v -/
def setV (O : So) (x i v : Va) : Option So := match x with
  | .ref n => match O[n]? with
    | some (.lst vs) => match i with
      | .int k => (ixN vs.length k).map fun j => O.set n (.lst (vs.set j v))
      | _ => none
    | some (.dct kvs) => match keyOf i with
      | some k => if kvs.length < sizeLine then some (O.set n (.dct (pt kvs k v))) else none
      | none => none
    | _ => none
  | _ => none
def sSetI (o i v : Ex) : Sm := fun Γ O => match v Γ O with
  | some (x, O1) => match o Γ O1 with
    | some (y, O2) => match i Γ O2 with
      | some (z, O3) => match setV O3 y z x with
        | some O4 => some (.nx Γ, O4)
        | none => none
      | none => none
    | none => none
  | none => none
/-- comprehensions -/
def wipeA (Γ : Ga) : List Nat → Ga
  | [] => Γ
  | i :: r => (wipeA Γ r).set i none
def lcL (g : Tg) (t : Tx) (e : Ex) (Γ : Ga) : List Va → List Va → So → Option (List Va × So)
  | [], acc, O => some (acc, O)
  | x :: xs, acc, O => match g x Γ with
    | some Γ1 => match t Γ1 O with
      | some (true, O1) => match e Γ1 O1 with
        | some (v, O2) => lcL g t e Γ xs (acc ++ [v]) O2
        | none => none
      | some (false, O1) => lcL g t e Γ xs acc O1
      | none => none
    | none => none
def tYs : Tx := fun _ O => some (true, O)
def mLc (vs : List Nat) (it : Ax) (g : Tg) (t : Tx) (e : Ex) : Ex := fun Γ O => match it Γ O with
  | some (xs, O1) => if xs.length ≤ sizeLine then match lcL g t e (wipeA Γ vs) xs [] O1 with
      | some (r, O2) => some (.lst r, O2)
      | none => none
    else none
  | none => none
/-! ### what is shown of the code -/
def FlOk (K : PySem.W.Frag) (m : List Addr) (H : Hp) (O' : So) (D : Ends) : Fl → Prop
  | .nx Γ => ∀ m' H' σ, Ext m H m' H' → Fit K m' O' H' → SFit K m' H' Γ σ → D.nx σ H'
  | .bk Γ => ∀ m' H' σ, Ext m H m' H' → Fit K m' O' H' → SFit K m' H' Γ σ → D.bk σ H'
  | .ct Γ => ∀ m' H' σ, Ext m H m' H' → Fit K m' O' H' → SFit K m' H' Γ σ → D.ct σ H'
  | .rt v => ∀ m' H' u, Ext m H m' H' → Fit K m' O' H' → Rep K m' H' v u → D.rt u H'
def TSm (K : PySem.W.Frag) (ms : Sm) : TS := fun D σ H => ∃ m Γ O r O', Fit K m O H ∧ SFit K m H Γ σ ∧ ms Γ O = some (r, O') ∧ FlOk K m H O' D r
section
variable {K : PySem.W.Frag} {m m1 : List Addr} {H H1 : Hp} {O' : So} {D : Ends}
theorem FlOk.mono {r : Fl} (x : Ext m H m1 H1) (h : FlOk K m H O' D r) : FlOk K m1 H1 O' D r := by
  cases r with
  | nx Γ => exact fun m' H' σ a b c => h m' H' σ (x.trans a) b c
  | bk Γ => exact fun m' H' σ a b c => h m' H' σ (x.trans a) b c
  | ct Γ => exact fun m' H' σ a b c => h m' H' σ (x.trans a) b c
  | rt v => exact fun m' H' u a b c => h m' H' u (x.trans a) b c
variable {ma mb : Sm} {me : Ex} {mt : Tx} {mx : Ax}
theorem t_next : ∀ D σ H, TSm K sNext D σ H → tNext D σ H := by
  rintro D σ H ⟨m, Γ, O, r, O', f, s, e, k⟩
  cases e
  exact k m H σ (Ext.refl _ _) f s
theorem t_never : ∀ D σ H, TSm K sNever D σ H → tNever D σ H := by
  rintro D σ H ⟨m, Γ, O, r, O', f, s, e, k⟩
  cases e
theorem t_seq : ∀ D σ H, TSm K (sSeq ma mb) D σ H → tSeq (TSm K ma) (TSm K mb) D σ H := by
  rintro D σ H ⟨m, Γ, O, r, O', f, s, e, k⟩
  unfold sSeq at e
  split at e
  · rename_i Γ1 O1 h1
    exact ⟨m, Γ, O, _, O1, f, s, h1, fun m1 H1 σ1 x1 f1 s1 => ⟨m1, Γ1, O1, r, O', f1, s1, e, k.mono x1⟩⟩
  · rename_i hn
    refine ⟨m, Γ, O, r, O', f, s, e, ?_⟩
    cases r with
    | nx Γ1 => exact absurd e (hn Γ1 O')
    | bk Γ => exact k
    | ct Γ => exact k
    | rt v => exact k
theorem t_ret : ∀ D σ H, TSm K (sRet me) D σ H → tRet (TEm K me) D σ H := by
  rintro D σ H ⟨m, Γ, O, r, O', f, s, e, k⟩
  unfold sRet at e
  split at e
  · rename_i v O1 h1
    obtain ⟨rfl, rfl⟩ := Prod.mk.inj (Option.some.inj e)
    exact ⟨m, Γ, O, v, O1, f, s, h1, k⟩
  · cases e
theorem t_drop : ∀ D σ H, TSm K (sDrop me) D σ H → tDrop (TEm K me) D σ H := by
  rintro D σ H ⟨m, Γ, O, r, O', f, s, e, k⟩
  unfold sDrop at e
  split at e
  · rename_i v O1 h1
    obtain ⟨rfl, rfl⟩ := Prod.mk.inj (Option.some.inj e)
    exact ⟨m, Γ, O, v, O1, f, s, h1, fun m1 H1 u x1 f1 r1 => k m1 H1 σ x1 f1 (s.ext x1)⟩
  · cases e
theorem t_ifS : ∀ D σ H, TSm K (sIf mt ma mb) D σ H → tIfS (TTm K mt) (TSm K ma) (TSm K mb) D σ H := by
  rintro D σ H ⟨m, Γ, O, r, O', f, s, e, k⟩
  unfold sIf at e
  split at e
  · rename_i O1 h1
    exact ⟨m, Γ, O, _, O1, f, s, h1, fun m1 H1 x1 f1 => by dsimp only; rw [if_pos rfl]; exact ⟨m1, Γ, O1, r, O', f1, s.ext x1, e, k.mono x1⟩⟩
  · rename_i O1 h1
    exact ⟨m, Γ, O, _, O1, f, s, h1, fun m1 H1 x1 f1 => by dsimp only; rw [if_neg (by decide)]; exact ⟨m1, Γ, O1, r, O', f1, s.ext x1, e, k.mono x1⟩⟩
  · cases e
/-! targets -/
/-- an item of a walk: a value, or a tuple that the walk has made -/
def RepI (K : PySem.W.Frag) (m : List Addr) (H : Hp) (x : Va) (v : V) : Prop := Rep K m H x v ∨ ∃ vs a xs, x = .tup vs ∧ v = .ref a ∧ SqT K H a xs ∧ Reps K m H vs xs
def RepP (K : PySem.W.Frag) (pr : Bool) (m : List Addr) (H : Hp) (x : Va) (v : V) : Prop := if pr then RepI K m H x v else Rep K m H x v
/-- x goes to the target (its slots among vs) -/
def GOk (K : PySem.W.Frag) (pr : Bool) (vs : List Nat) (g : TG) (mg : Tg) : Prop :=
  ∀ (m : List Addr) (H : Hp) (Γ Γ' : Ga) (σ : L2.St) (x : Va) (v : V) (Q : L2.St → Hp → Prop), RepP K pr m H x v → SFit K m H Γ σ → mg x Γ = some Γ' → (∀ σ', SFit K m H Γ' σ' → L2.wipe σ' vs = L2.wipe σ vs → Q σ' H) → g v σ H Q
def GsOk (K : PySem.W.Frag) (vs : List Nat) (g : TGs) (mg : Tgs) : Prop :=
  ∀ (m : List Addr) (H : Hp) (Γ Γ' : Ga) (σ : L2.St) (x : List Va) (v : List V) (Q : L2.St → Hp → Prop), Reps K m H x v → SFit K m H Γ σ → mg x Γ = some Γ' → (∀ σ', SFit K m H Γ' σ' → L2.wipe σ' vs = L2.wipe σ vs → Q σ' H) → g v σ H Q
theorem gok_name {i : Nat} {vs : List Nat} (hi : i ∈ vs) : GOk K false vs (gName i) (gN i) := fun m H Γ Γ' σ x v Q r s e k => by
  cases e
  exact k _ (s.set i r) (TB.wipe_set hi)
theorem gsok_nil {vs : List Nat} : GsOk K vs gNil gNl := fun m H Γ Γ' σ x v Q r s e k => by
  unfold gNl at e
  split at e
  · cases e; cases r
    exact ⟨rfl, k σ s rfl⟩
  · cases e
theorem gsok_cons {vs : List Nat} {g : TG} {gs : TGs} {mg : Tg} {mgs : Tgs} (h : GOk K false vs g mg) (hs : GsOk K vs gs mgs) : GsOk K vs (gCons g gs) (gCs mg mgs) := fun m H Γ Γ' σ x v Q r s e k => by
  unfold gCs at e
  split at e
  · split at e
    · rename_i Γ1 h1
      cases r with
      | cons r rr => exact ⟨_, _, rfl, h m H Γ Γ1 σ _ _ _ r s h1 fun σ1 s1 w1 => hs m H Γ1 Γ' σ1 _ _ Q rr s1 e fun σ2 s2 w2 => k σ2 s2 (w2.trans w1)⟩
    · cases e
  · cases e
theorem gok_tup {vs : List Nat} {gs : TGs} {mgs : Tgs} {n : Nat} (h : GsOk K vs gs mgs) (hn : ∀ x Γ Γ', mgs x Γ = some Γ' → x.length = n) : GOk K true vs (TB.gSeq K n gs) (gT mgs) := fun m H Γ Γ' σ x v Q r s e k => by
  unfold gT at e
  split at e
  · rename_i ys
    have hl := hn _ _ _ e
    rcases r with r | ⟨zs, a, xs, e1, rfl, hq, rr⟩
    · cases r with
      | @tup a xs _ hq rr => exact Or.inl ⟨a, xs, rfl, hq.t, by rw [← rr.length]; exact hl, h m H Γ Γ' σ ys xs Q rr s e k⟩
    · cases e1
      exact Or.inl ⟨a, xs, rfl, hq, by rw [← rr.length]; exact hl, h m H Γ Γ' σ ys xs Q rr s e k⟩
  · rename_i ys
    have hl := hn _ _ _ e
    rcases r with r | ⟨zs, a, xs, e1, rfl, hq, rr⟩
    · cases r with
      | @lst a xs _ hq rr => exact Or.inr ⟨a, xs, rfl, hq.l, by rw [← rr.length]; exact hl, h m H Γ Γ' σ ys xs Q rr s e k⟩
    · cases e1
  · cases e
theorem GOk.plain {vs : List Nat} {g : TG} {mg : Tg} (h : GOk K true vs g mg) : GOk K false vs g mg := fun m H Γ Γ' σ x v Q r s e k => h m H Γ Γ' σ x v Q (Or.inl r) s e k
theorem t_asg {g : TG} {mg : Tg} {vs : List Nat} (hg : GOk K false vs g mg) : ∀ D σ H, TSm K (sAsg me mg) D σ H → tAsg (TEm K me) g D σ H := by
  rintro D σ H ⟨m, Γ, O, r, O', f, s, e, k⟩
  unfold sAsg at e
  split at e
  · rename_i v O1 h1
    split at e
    · rename_i Γ1 h2
      obtain ⟨rfl, rfl⟩ := Prod.mk.inj (Option.some.inj e)
      exact ⟨m, Γ, O, v, O1, f, s, h1, fun m1 H1 u x1 f1 r1 => hg m1 H1 Γ Γ1 σ v u _ r1 (s.ext x1) h2 fun σ' s' _ => k m1 H1 σ' x1 f1 s'⟩
    · cases e
  · cases e
theorem t_par {i j : Nat} : ∀ D σ H, TSm K (sPar i j mx) D σ H → tPar i j (TAm K mx) D σ H := by
  rintro D σ H ⟨m, Γ, O, r, O', f, s, e, k⟩
  unfold sPar at e
  split at e
  · rename_i x y O1 h1
    obtain ⟨rfl, rfl⟩ := Prod.mk.inj (Option.some.inj e)
    refine ⟨m, Γ, O, _, O1, f, s, h1, fun m1 H1 u x1 f1 r1 => ?_⟩
    cases r1 with
    | cons r1 r =>
      cases r with
      | cons r2 r =>
        cases r
        exact ⟨_, _, rfl, k m1 H1 _ x1 f1 (((s.ext x1).set i r1).set j r2)⟩
  · cases e
theorem t_par3 {i j l : Nat} : ∀ D σ H, TSm K (sPar3 i j l mx) D σ H → tPar3 i j l (TAm K mx) D σ H := by
  rintro D σ H ⟨m, Γ, O, r, O', f, s, e, k⟩
  unfold sPar3 at e
  split at e
  · rename_i x y z O1 h1
    obtain ⟨rfl, rfl⟩ := Prod.mk.inj (Option.some.inj e)
    refine ⟨m, Γ, O, _, O1, f, s, h1, fun m1 H1 u x1 f1 r1 => ?_⟩
    cases r1 with
    | cons r1 r =>
      cases r with
      | cons r2 r =>
        cases r with
        | cons r3 r =>
          cases r
          exact ⟨_, _, _, rfl, k m1 H1 _ x1 f1 ((((s.ext x1).set i r1).set j r2).set l r3)⟩
  · cases e
/-! x[i] = v -/
theorem t_setI {mo mi mv : Ex} : ∀ D σ H, TSm K (sSetI mo mi mv) D σ H → TB.tSetI (TEm K mo) (TEm K mi) (TEm K mv) D σ H := by
  rintro D σ H ⟨m, Γ, O, r, O', f, s, e, k⟩
  unfold sSetI at e
  split at e
  · rename_i x O1 h1
    split at e
    · rename_i y O2 h2
      split at e
      · rename_i z O3 h3
        split at e
        · rename_i O4 h4
          obtain ⟨rfl, rfl⟩ := Prod.mk.inj (Option.some.inj e)
          unfold setV at h4
          split at h4
          · rename_i n
            split at h4
            · rename_i vs hn
              split at h4
              · rename_i kk
                cases hj : ixN vs.length kk with
                | none => rw [hj] at h4; cases h4
                | some j =>
                  rw [hj] at h4; cases h4
                  refine Or.inl ⟨m, Γ, O, x, O1, f, s, h1, fun m1 H1 u1 x1 f1 r1 => ⟨m1, Γ, O1, _, O2, f1, s.ext x1, h2, fun m2 H2 u2 x2 f2 r2 => ⟨m2, Γ, O2, _, O3, f2, (s.ext x1).ext x2, h3, fun m3 H3 u3 x3 f3 r3 => ?_⟩⟩⟩
                  cases r3
                  cases r2 with
                  | @ref _ p hp =>
                    have hp3 := x3.at hp
                    obtain ⟨xs, e1, rs⟩ := f3.lstAt hp3 hn
                    have un : unl (H3 p) := by rw [e1]; trivial
                    have r1' := r1.ext (x2.trans x3)
                    have xx := (x1.trans x2).trans x3
                    refine ⟨p, xs, kk, j, rfl, rfl, e1, by rw [← rs.length]; exact hj, ?_⟩
                    exact k m3 _ σ (xx.trans (Ext.write un (List.mem_of_getElem? hp3))) (f3.write (b := .lst (vs.set j x)) hp3 un (rs.set r1' j)) ((s.ext xx).mono (Kp.put un))
              · cases h4
            · rename_i kvs hn
              split at h4
              · rename_i kk hk
                split at h4
                · rename_i hz
                  cases h4
                  refine Or.inr ⟨m, Γ, O, x, O1, f, s, h1, fun m1 H1 u1 x1 f1 r1 => ⟨m1, Γ, O1, _, O2, f1, s.ext x1, h2, fun m2 H2 u2 x2 f2 r2 => ⟨m2, Γ, O2, _, O3, f2, (s.ext x1).ext x2, h3, fun m3 H3 u3 x3 f3 r3 => ?_⟩⟩⟩
                  have hk := rep_key hk r3
                  subst hk
                  cases r2 with
                  | @ref _ p hp =>
                    have hp3 := x3.at hp
                    obtain ⟨xs, e1, rs⟩ := f3.dctAt hp3 hn
                    have un : unl (H3 p) := by rw [e1]; trivial
                    have r1' := r1.ext (x2.trans x3)
                    have xx := (x1.trans x2).trans x3
                    have hlen : kvs.length = xs.length := Paired.length rs.rel
                    refine ⟨p, _, rfl, Or.inl ⟨xs, kk, e1, rfl, by omega, rfl⟩, ?_⟩
                    exact k m3 _ σ (xx.trans (Ext.write un (List.mem_of_getElem? hp3))) (f3.write (b := .dct (pt kvs kk x)) hp3 un (RepKV.of (rs.rel.put r1'))) ((s.ext xx).mono (Kp.put un))
                · cases h4
              · cases h4
            · cases h4
          · cases h4
        · cases e
      · cases e
    · cases e
  · cases e
/-! walks -/
structure Wk (K : PySem.W.Frag) (pr : Bool) (m : List Addr) (H : Hp) (J : It) (ws : List Va) : Prop where
  go : ∀ m1 O1 H1 n, n < ws.length → Kp m H m1 H1 → Fit K m1 O1 H1 → J.go n H1
  yld : ∀ m1 O1 H1 n w x H2, ws[n]? = some w → Kp m H m1 H1 → Fit K m1 O1 H1 → J.yld n H1 x H2 → Ext m1 H1 m1 H2 ∧ Fit K m1 O1 H2 ∧ RepP K pr m1 H2 w x ∧ ∀ a o, H1 a = some o → H2 a = some o
  stop : ∀ m1 O1 H1, Kp m H m1 H1 → Fit K m1 O1 H1 → J.stop ws.length H1
def TIm (K : PySem.W.Frag) (pr : Bool) (mi : Ax) : TI := fun σ H R => ∃ m Γ O ws O', Fit K m O H ∧ SFit K m H Γ σ ∧ mi Γ O = some (ws, O') ∧ ∀ J m' H', Ext m H m' H' → Fit K m' O' H' → Wk K pr m' H' J ws → R J H'
theorem t_for {pr : Bool} {g : TG} {mg : Tg} {vs : List Nat} (hg : GOk K pr vs g mg) : ∀ D σ H, TSm K (sFor mx mg mb) D σ H → tFor (TIm K pr mx) g (TSm K mb) D σ H := by
  rintro D σ H ⟨m, Γ, O, r, O', f, s, e, k⟩
  unfold sFor at e
  split at e
  · rename_i ws O1 h1
    refine ⟨m, Γ, O, ws, O1, f, s, h1, fun J m1 H1 x1 f1 wk => ?_⟩
    refine ⟨fun n l σ' H' => l = ws.length - n ∧ n ≤ ws.length ∧ ∃ m2 Γ2 O2, Ext m1 H1 m2 H' ∧ Fit K m2 O2 H' ∧ SFit K m2 H' Γ2 σ' ∧ forL mg mb (ws.drop n) Γ2 O2 = some (r, O'), ⟨ws.length, by simp, Nat.zero_le _, m1, Γ, O1, Ext.refl _ _, f1, s.ext x1, by simpa using e⟩, ?_⟩
    rintro n l σ2 H2 ⟨rfl, hn, m2, Γ2, O2, x2, f2, s2, e2⟩
    by_cases hlt : n < ws.length
    · refine Or.inr ⟨wk.go m2 O2 H2 n hlt x2.toKp f2, fun σ3 H3 => ∃ m3 Γ3 O3, Ext m1 H1 m3 H3 ∧ Fit K m3 O3 H3 ∧ SFit K m3 H3 Γ3 σ3 ∧ forL mg mb (ws.drop (n + 1)) Γ3 O3 = some (r, O'), fun σ3 H3 q => ⟨ws.length - (n + 1), by omega, rfl, hlt, q⟩, fun x H3 y => ?_⟩
      obtain ⟨x3, f3, r3, _⟩ := wk.yld m2 O2 H2 n ws[n] x H3 (by simp [hlt]) x2.toKp f2 y
      rw [List.drop_eq_getElem_cons hlt] at e2
      unfold forL at e2
      split at e2
      · rename_i Γ3 hg3
        refine hg m2 H3 Γ2 Γ3 σ2 _ x _ r3 (s2.ext x3) hg3 fun σ4 s4 _ => ?_
        have x13 : Ext m1 H1 m2 H3 := x2.trans x3
        have x03 : Ext m H m2 H3 := x1.trans x13
        split at e2
        · rename_i Γ5 O5 h5
          exact ⟨m2, Γ3, O2, _, O5, f3, s4, h5, fun m6 H6 σ6 x6 f6 s6 => ⟨m6, Γ5, O5, x13.trans x6, f6, s6, e2⟩⟩
        · rename_i Γ5 O5 h5
          exact ⟨m2, Γ3, O2, _, O5, f3, s4, h5, fun m6 H6 σ6 x6 f6 s6 => ⟨m6, Γ5, O5, x13.trans x6, f6, s6, e2⟩⟩
        · rename_i Γ5 O5 h5
          obtain ⟨rfl, rfl⟩ := Prod.mk.inj (Option.some.inj e2)
          exact ⟨m2, Γ3, O2, _, O5, f3, s4, h5, fun m6 H6 σ6 x6 f6 s6 => k m6 H6 σ6 (x03.trans x6) f6 s6⟩
        · rename_i v O5 h5
          obtain ⟨rfl, rfl⟩ := Prod.mk.inj (Option.some.inj e2)
          exact ⟨m2, Γ3, O2, _, O5, f3, s4, h5, fun m6 H6 u x6 f6 s6 => k m6 H6 u (x03.trans x6) f6 s6⟩
        · cases e2
      · cases e2
    · have en : n = ws.length := by omega
      subst en
      rw [List.drop_length] at e2
      unfold forL at e2
      obtain ⟨rfl, rfl⟩ := Prod.mk.inj (Option.some.inj e2)
      exact Or.inl ⟨wk.stop m2 O2 H2 x2.toKp f2, k m2 H2 σ2 (x1.trans x2) f2 s2⟩
  · cases e
theorem t_while : ∀ D σ H, TSm K (sWhile mt mb) D σ H → tWhile (TTm K mt) (TSm K mb) D σ H := by
  rintro D σ H ⟨m, Γ, O, r, O', f, s, e, k⟩
  unfold sWhile at e
  split at e
  · rename_i hx
    refine ⟨fun n σ' H' => ∃ m2 Γ2 O2, Ext m H m2 H' ∧ Fit K m2 O2 H' ∧ SFit K m2 H' Γ2 σ' ∧ whN mt mb n Γ2 O2 = some (r, O'), ⟨hx.choose, m, Γ, O, Ext.refl _ _, f, s, e⟩, ?_⟩
    rintro n σ2 H2 ⟨m2, Γ2, O2, x2, f2, s2, e2⟩
    cases n with
    | zero => cases e2
    | succ n =>
      unfold whN at e2
      split at e2
      · rename_i O3 h3
        refine ⟨m2, Γ2, O2, _, O3, f2, s2, h3, fun m3 H3 x3 f3 => ?_⟩
        dsimp only
        rw [if_pos rfl]
        refine ⟨fun σ4 H4 => ∃ m4 Γ4 O4, Ext m H m4 H4 ∧ Fit K m4 O4 H4 ∧ SFit K m4 H4 Γ4 σ4 ∧ whN mt mb n Γ4 O4 = some (r, O'), fun σ4 H4 q => ⟨n, Nat.lt_succ_self n, q⟩, ?_⟩
        have s3 := s2.ext x3
        have x03 := x2.trans x3
        split at e2
        · rename_i Γ5 O5 h5
          exact ⟨m3, Γ2, O3, _, O5, f3, s3, h5, fun m6 H6 σ6 x6 f6 s6 => ⟨m6, Γ5, O5, x03.trans x6, f6, s6, e2⟩⟩
        · rename_i Γ5 O5 h5
          exact ⟨m3, Γ2, O3, _, O5, f3, s3, h5, fun m6 H6 σ6 x6 f6 s6 => ⟨m6, Γ5, O5, x03.trans x6, f6, s6, e2⟩⟩
        · rename_i Γ5 O5 h5
          obtain ⟨rfl, rfl⟩ := Prod.mk.inj (Option.some.inj e2)
          exact ⟨m3, Γ2, O3, _, O5, f3, s3, h5, fun m6 H6 σ6 x6 f6 s6 => k m6 H6 σ6 (x03.trans x6) f6 s6⟩
        · rename_i v O5 h5
          obtain ⟨rfl, rfl⟩ := Prod.mk.inj (Option.some.inj e2)
          exact ⟨m3, Γ2, O3, _, O5, f3, s3, h5, fun m6 H6 u x6 f6 s6 => k m6 H6 u (x03.trans x6) f6 s6⟩
        · cases e2
      · rename_i O3 h3
        obtain ⟨rfl, rfl⟩ := Prod.mk.inj (Option.some.inj e2)
        refine ⟨m2, Γ2, O2, _, O3, f2, s2, h3, fun m3 H3 x3 f3 => ?_⟩
        dsimp only
        rw [if_neg (by decide)]
        exact k m3 H3 σ2 (x2.trans x3) f3 (s2.ext x3)
      · cases e2
  · cases e
end
/-! ### a while, turn by turn -/
theorem whN_more {c : Tx} {b : Sm} : ∀ {n k : Nat} {Γ : Ga} {O : So} {r : Fl × So}, n ≤ k → whN c b n Γ O = some r → whN c b k Γ O = some r
  | 0, _, _, _, _, _, e => by cases e
  | n + 1, 0, _, _, _, h, _ => by omega
  | n + 1, k + 1, Γ, O, r, h, e => by
    unfold whN at e ⊢
    have ih := fun {Γ O} {r : Fl × So} => whN_more (c := c) (b := b) (Γ := Γ) (O := O) (r := r) (Nat.le_of_succ_le_succ h)
    cases hc : c Γ O with
    | none => rw [hc] at e; cases e
    | some p =>
      obtain ⟨t, O1⟩ := p
      rw [hc] at e
      cases t with
      | false => exact e
      | true =>
        dsimp only at e ⊢
        cases hb : b Γ O1 with
        | none => rw [hb] at e; cases e
        | some q =>
          obtain ⟨fl, O2⟩ := q
          rw [hb] at e
          cases fl with
          | nx Γ2 => exact ih e
          | ct Γ2 => exact ih e
          | bk Γ2 => exact e
          | rt v => exact e
theorem sWhile_of {c : Tx} {b : Sm} {Γ : Ga} {O : So} {n : Nat} {r : Fl × So} (h : whN c b n Γ O = some r) : sWhile c b Γ O = some r := by
  have hx : ∃ n r, whN c b n Γ O = some r := ⟨n, r, h⟩
  unfold sWhile
  rw [dif_pos hx]
  obtain ⟨r', hr⟩ := hx.choose_spec
  have h1 := whN_more (Nat.le_max_left n hx.choose) h
  have h2 := whN_more (Nat.le_max_right n hx.choose) hr
  rw [h1] at h2
  rw [hr, h2]
end TV
end
-- V5
section
set_option Elab.async false
set_option linter.all false
set_option maxRecDepth 100000
set_option maxHeartbeats 2000000
/-! V5: comprehensions; what is walked. -/
namespace TV
open PySem L2
open TB (SqF NewT Ctx FCtx GK lk pt RelKV tOrE tOrS)
def dcL (g : Tg) (t : Tx) (ke e : Ex) (Γ : Ga) : List Va → List (Key × Va) → So → Option (List (Key × Va) × So)
  | [], acc, O => some (acc, O)
  | x :: xs, acc, O => match g x Γ with
    | some Γ1 => match t Γ1 O with
      | some (true, O1) => match ke Γ1 O1 with
        | some (kv, O2) => match keyOf kv with
          | some k => match e Γ1 O2 with
            | some (v, O3) => dcL g t ke e Γ xs (pt acc k v) O3
            | none => none
          | none => none
        | none => none
      | some (false, O1) => dcL g t ke e Γ xs acc O1
      | none => none
    | none => none
def mDc (vs : List Nat) (it : Ax) (g : Tg) (t : Tx) (ke e : Ex) : Ex := fun Γ O => match it Γ O with
  | some (xs, O1) => if xs.length ≤ sizeLine then match dcL g t ke e (wipeA Γ vs) xs [] O1 with
      | some (r, O2) => some (.dct r, O2)
      | none => none
    else none
  | none => none
/-- two fors: the first one's items, one behind another -/
def lcM (vs1 : List Nat) (g : Tg) (t : Tx) (it1 : Ax) (g1 : Tg) (t1 : Tx) (e : Ex) (Γ : Ga) : List Va → List Va → So → Option (List Va × So)
  | [], acc, O => some (acc, O)
  | x :: xs, acc, O => match g x Γ with
    | some Γ1 => match t Γ1 O with
      | some (true, O1) => match it1 Γ1 O1 with
        | some (ys, O2) => match lcL g1 t1 e (wipeA Γ1 vs1) ys acc O2 with
          | some (acc', O3) => lcM vs1 g t it1 g1 t1 e Γ xs acc' O3
          | none => none
        | none => none
      | some (false, O1) => lcM vs1 g t it1 g1 t1 e Γ xs acc O1
      | none => none
    | none => none
def mLc2 (vs vs1 : List Nat) (it : Ax) (g : Tg) (t : Tx) (it1 : Ax) (g1 : Tg) (t1 : Tx) (e : Ex) : Ex := fun Γ O => match it Γ O with
  | some (xs, O1) => match lcM vs1 g t it1 g1 t1 e (wipeA Γ vs) xs [] O1 with
      | some (r, O2) => if r.length ≤ sizeLine then some (.lst r, O2) else none
      | none => none
  | none => none
theorem lcL_len {g : Tg} {t : Tx} {e : Ex} {Γ : Ga} : ∀ {xs acc : List Va} {O O' : So} {r : List Va}, lcL g t e Γ xs acc O = some (r, O') → acc.length ≤ r.length
  | [], acc, O, O', r, h => by unfold lcL at h; cases h; exact Nat.le_refl _
  | x :: xs, acc, O, O', r, h => by
    unfold lcL at h
    split at h
    · split at h
      · split at h
        · have := lcL_len h; simp at this; omega
        · cases h
      · exact lcL_len h
      · cases h
    · cases h
theorem lcM_len {vs1 : List Nat} {g : Tg} {t : Tx} {it1 : Ax} {g1 : Tg} {t1 : Tx} {e : Ex} {Γ : Ga} : ∀ {xs acc : List Va} {O O' : So} {r : List Va}, lcM vs1 g t it1 g1 t1 e Γ xs acc O = some (r, O') → acc.length ≤ r.length
  | [], acc, O, O', r, h => by unfold lcM at h; cases h; exact Nat.le_refl _
  | x :: xs, acc, O, O', r, h => by
    unfold lcM at h
    split at h
    · split at h
      · split at h
        · split at h
          · rename_i h1
            exact Nat.le_trans (lcL_len h1) (lcM_len h)
          · cases h
        · cases h
      · exact lcM_len h
      · cases h
    · cases h
section
variable {K : PySem.W.Frag} {m m1 : List Addr} {H H1 : Hp} {Γ : Ga} {σ : L2.St} {mx mx1 : Ax} {mt mt1 : Tx} {me mk : Ex}
theorem SFit.wipes (h : SFit K m H Γ σ) : ∀ vs : List Nat, SFit K m H (wipeA Γ vs) (L2.wipe σ vs)
  | [] => h
  | i :: r => SFit.wipe1 i (h.wipes r) none
theorem t_yes : ∀ σ H Q, TTm K tYs σ H Q → tYes σ H Q := by
  rintro σ H Q ⟨m, Γ, O, b, O', f, s, e, k⟩
  cases e
  exact k m H (Ext.refl _ _) f
theorem t_lc {pr : Bool} {g : TG} {mg : Tg} {vs : List Nat} (hg : GOk K pr vs g mg) : ∀ σ H Q, TFm K (mLc vs mx mg mt me) σ H Q → tLc (TIm K pr mx) g (TTm K mt) (TEm K me) vs σ H Q := by
  rintro σ H Q ⟨m, Γ, O, r, O', f, s, e, k⟩
  unfold mLc at e
  split at e
  · rename_i ws O1 h1
    split at e
    · rename_i hz
      split at e
      · rename_i res O2 hres
        obtain ⟨rfl, rfl⟩ := Prod.mk.inj (Option.some.inj e)
        refine ⟨m, Γ, O, ws, O1, f, s, h1, fun J m1 H1 x1 f1 wk D nD => ?_⟩
        have nD0 : H D = none := x1.none f1 nD
        refine ⟨fun n l H' => l = ws.length - n ∧ n ≤ ws.length ∧ ∃ m2 O3 acc us, Ext m1 H1 m2 H' ∧ Fit K m2 O3 H' ∧ H' D = some (.lst us) ∧ D ∉ m2 ∧ Reps K m2 H' acc us ∧ acc.length ≤ n ∧ lcL mg mt me (wipeA Γ vs) (ws.drop n) acc O3 = some (res, O2),
          ⟨ws.length, by simp, Nat.zero_le _, m1, O1, [], [], Ext.lay nD, f1.lay nD, upd_same, f1.notin nD, .nil, Nat.le_refl _, by simpa using hres⟩, ?_⟩
        rintro n l H2 ⟨rfl, hn, m2, O3, acc, us, x2, f2, hD, nD2, rs, hl, e2⟩
        by_cases hlt : n < ws.length
        · refine Or.inr ⟨wk.go m2 O3 H2 n hlt x2.toKp f2, fun H3 => ∃ m3 O4 acc us, Ext m1 H1 m3 H3 ∧ Fit K m3 O4 H3 ∧ H3 D = some (.lst us) ∧ D ∉ m3 ∧ Reps K m3 H3 acc us ∧ acc.length ≤ n + 1 ∧ lcL mg mt me (wipeA Γ vs) (ws.drop (n + 1)) acc O4 = some (res, O2),
            fun H3 q => ⟨ws.length - (n + 1), by omega, rfl, hlt, q⟩, fun x H3 y => ?_⟩
          obtain ⟨x3, f3, r3, kp3⟩ := wk.yld m2 O3 H2 n ws[n] x H3 (by simp [hlt]) x2.toKp f2 y
          rw [List.drop_eq_getElem_cons hlt] at e2
          unfold lcL at e2
          split at e2
          · rename_i Γ3 hg3
            have x13 := x2.trans x3
            have s3 : SFit K m2 H3 (wipeA Γ vs) (L2.wipe σ vs) := (s.ext (x1.trans x13)).wipes vs
            refine hg m2 H3 _ Γ3 _ _ x _ r3 s3 hg3 fun σ4 s4 w4 => ⟨w4.trans TB.wipe_wipe, ?_⟩
            have hD3 := kp3 D _ hD
            split at e2
            · rename_i O5 h5
              refine ⟨m2, Γ3, O3, _, O5, f3, s4, h5, fun m6 H6 x6 f6 => ?_⟩
              dsimp only
              rw [if_pos rfl]
              split at e2
              · rename_i v O7 h7
                refine ⟨m6, Γ3, O5, v, O7, f6, s4.ext x6, h7, fun m8 H8 u x8 f8 r8 => ?_⟩
                have nD6 := x6.notin hD3 nD2
                have hD6 := x6.kp D _ nD2 hD3
                have nD8 := x8.notin hD6 nD6
                have hD8 := x8.kp D _ nD6 hD6
                have un : unl (H8 D) := by rw [hD8]; trivial
                have x18 := (x13.trans x6).trans x8
                have rs8 := rs.ext ((x3.trans x6).trans x8)
                refine ⟨us, hD8, by rw [← rs.length]; omega, m8, O7, acc ++ [v], us ++ [u], x18.putAt nD un, f8.put un nD8, upd_same, nD8, (rs8.append (.cons r8 .nil)).mono (Kp.put un), by simp; omega, e2⟩
              · cases e2
            · rename_i O5 h5
              refine ⟨m2, Γ3, O3, _, O5, f3, s4, h5, fun m6 H6 x6 f6 => ?_⟩
              dsimp only
              rw [if_neg (by decide)]
              exact ⟨m6, O5, acc, us, x13.trans x6, f6, x6.kp D _ nD2 hD3, x6.notin hD3 nD2, rs.ext (x3.trans x6), by omega, e2⟩
            · cases e2
          · cases e2
        · have en : n = ws.length := by omega
          subst en
          rw [List.drop_length] at e2
          unfold lcL at e2
          obtain ⟨rfl, rfl⟩ := Prod.mk.inj (Option.some.inj e2)
          exact Or.inl ⟨wk.stop m2 O3 H2 x2.toKp f2, k m2 H2 _ (x1.trans x2) f2 (.lst hD nD0 nD2 rs)⟩
      · cases e
    · cases e
  · cases e
theorem t_dc {pr : Bool} {g : TG} {mg : Tg} {vs : List Nat} (hg : GOk K pr vs g mg) : ∀ σ H Q, TFm K (mDc vs mx mg mt mk me) σ H Q → tDc (TIm K pr mx) g (TTm K mt) (TEm K mk) (TEm K me) vs σ H Q := by
  rintro σ H Q ⟨m, Γ, O, r, O', f, s, e, k⟩
  unfold mDc at e
  split at e
  · rename_i ws O1 h1
    split at e
    · rename_i hz
      split at e
      · rename_i res O2 hres
        obtain ⟨rfl, rfl⟩ := Prod.mk.inj (Option.some.inj e)
        refine ⟨m, Γ, O, ws, O1, f, s, h1, fun J m1 H1 x1 f1 wk D nD => ?_⟩
        have nD0 : H D = none := x1.none f1 nD
        refine ⟨fun n l H' => l = ws.length - n ∧ n ≤ ws.length ∧ ∃ m2 O3 acc us, Ext m1 H1 m2 H' ∧ Fit K m2 O3 H' ∧ H' D = some (.dK us) ∧ D ∉ m2 ∧ RepKV K m2 H' acc us ∧ acc.length ≤ n ∧ dcL mg mt mk me (wipeA Γ vs) (ws.drop n) acc O3 = some (res, O2),
          ⟨ws.length, by simp, Nat.zero_le _, m1, O1, [], [], Ext.lay nD, f1.lay nD, upd_same, f1.notin nD, .nil, Nat.le_refl _, by simpa using hres⟩, ?_⟩
        rintro n l H2 ⟨rfl, hn, m2, O3, acc, us, x2, f2, hD, nD2, rs, hl, e2⟩
        by_cases hlt : n < ws.length
        · refine Or.inr ⟨wk.go m2 O3 H2 n hlt x2.toKp f2, fun H3 => ∃ m3 O4 acc us, Ext m1 H1 m3 H3 ∧ Fit K m3 O4 H3 ∧ H3 D = some (.dK us) ∧ D ∉ m3 ∧ RepKV K m3 H3 acc us ∧ acc.length ≤ n + 1 ∧ dcL mg mt mk me (wipeA Γ vs) (ws.drop (n + 1)) acc O4 = some (res, O2),
            fun H3 q => ⟨ws.length - (n + 1), by omega, rfl, hlt, q⟩, fun x H3 y => ?_⟩
          obtain ⟨x3, f3, r3, kp3⟩ := wk.yld m2 O3 H2 n ws[n] x H3 (by simp [hlt]) x2.toKp f2 y
          rw [List.drop_eq_getElem_cons hlt] at e2
          unfold dcL at e2
          split at e2
          · rename_i Γ3 hg3
            have x13 := x2.trans x3
            have s3 : SFit K m2 H3 (wipeA Γ vs) (L2.wipe σ vs) := (s.ext (x1.trans x13)).wipes vs
            refine hg m2 H3 _ Γ3 _ _ x _ r3 s3 hg3 fun σ4 s4 w4 => ⟨w4.trans TB.wipe_wipe, ?_⟩
            have hD3 := kp3 D _ hD
            split at e2
            · rename_i O5 h5
              refine ⟨m2, Γ3, O3, _, O5, f3, s4, h5, fun m6 H6 x6 f6 => ?_⟩
              dsimp only
              rw [if_pos rfl]
              split at e2
              · rename_i kv O6 h6
                split at e2
                · rename_i kk hkk
                  split at e2
                  · rename_i v O7 h7
                    refine ⟨m6, Γ3, O5, kv, O6, f6, s4.ext x6, h6, fun m7 H7 u7 x7 f7 r7 => ⟨m7, Γ3, O6, v, O7, f7, (s4.ext x6).ext x7, h7, fun m8 H8 u x8 f8 r8 => ?_⟩⟩
                    have nD6 := x6.notin hD3 nD2
                    have hD6 := x6.kp D _ nD2 hD3
                    have nD7 := x7.notin hD6 nD6
                    have hD7 := x7.kp D _ nD6 hD6
                    have nD8 := x8.notin hD7 nD7
                    have hD8 := x8.kp D _ nD7 hD7
                    have un : unl (H8 D) := by rw [hD8]; trivial
                    have x18 := ((x13.trans x6).trans x7).trans x8
                    have rs8 := rs.ext (((x3.trans x6).trans x7).trans x8)
                    have hlen : acc.length = us.length := Paired.length rs8.rel
                    refine ⟨us, kk, rep_key hkk r7, hD8, by omega, m8, O7, pt acc kk v, _, x18.putAt nD un, f8.put un nD8, upd_same, nD8, (RepKV.of (rs8.rel.put r8)).mono (Kp.put un), Nat.le_trans (TB.pt_len _ _ _) (by omega), e2⟩
                  · cases e2
                · cases e2
              · cases e2
            · rename_i O5 h5
              refine ⟨m2, Γ3, O3, _, O5, f3, s4, h5, fun m6 H6 x6 f6 => ?_⟩
              dsimp only
              rw [if_neg (by decide)]
              exact ⟨m6, O5, acc, us, x13.trans x6, f6, x6.kp D _ nD2 hD3, x6.notin hD3 nD2, rs.ext (x3.trans x6), by omega, e2⟩
            · cases e2
          · cases e2
        · have en : n = ws.length := by omega
          subst en
          rw [List.drop_length] at e2
          unfold dcL at e2
          obtain ⟨rfl, rfl⟩ := Prod.mk.inj (Option.some.inj e2)
          exact Or.inl ⟨wk.stop m2 O3 H2 x2.toKp f2, k m2 H2 _ (x1.trans x2) f2 (.dct hD nD0 nD2 rs)⟩
      · cases e
    · cases e
  · cases e
theorem t_lc2 {pr pr1 : Bool} {g g1 : TG} {mg mg1 : Tg} {vs vs1 : List Nat} (hg : GOk K pr vs g mg) (hg1 : GOk K pr1 vs1 g1 mg1) :
    ∀ σ H Q, TFm K (mLc2 vs vs1 mx mg mt mx1 mg1 mt1 me) σ H Q → tLc2 (TIm K pr mx) g (TTm K mt) (TIm K pr1 mx1) g1 (TTm K mt1) (TEm K me) vs vs1 σ H Q := by
  rintro σ H Q ⟨m, Γ, O, r, O', f, s, e, k⟩
  unfold mLc2 at e
  split at e
  · rename_i ws O1 h1
    split at e
    · rename_i res O2 hres
      split at e
      · rename_i hz
        obtain ⟨rfl, rfl⟩ := Prod.mk.inj (Option.some.inj e)
        refine ⟨m, Γ, O, ws, O1, f, s, h1, fun J m1 H1 x1 f1 wk D nD => ?_⟩
        have nD0 : H D = none := x1.none f1 nD
        refine ⟨fun n l H' => l = ws.length - n ∧ n ≤ ws.length ∧ ∃ m2 O3 acc us, Ext m1 H1 m2 H' ∧ Fit K m2 O3 H' ∧ H' D = some (.lst us) ∧ D ∉ m2 ∧ Reps K m2 H' acc us ∧ lcM vs1 mg mt mx1 mg1 mt1 me (wipeA Γ vs) (ws.drop n) acc O3 = some (res, O2),
          ⟨ws.length, by simp, Nat.zero_le _, m1, O1, [], [], Ext.lay nD, f1.lay nD, upd_same, f1.notin nD, .nil, by simpa using hres⟩, ?_⟩
        rintro n l H2 ⟨rfl, hn, m2, O3, acc, us, x2, f2, hD, nD2, rs, e2⟩
        by_cases hlt : n < ws.length
        · refine Or.inr ⟨wk.go m2 O3 H2 n hlt x2.toKp f2, fun H3 => ∃ m3 O4 acc us, Ext m1 H1 m3 H3 ∧ Fit K m3 O4 H3 ∧ H3 D = some (.lst us) ∧ D ∉ m3 ∧ Reps K m3 H3 acc us ∧ lcM vs1 mg mt mx1 mg1 mt1 me (wipeA Γ vs) (ws.drop (n + 1)) acc O4 = some (res, O2),
            fun H3 q => ⟨ws.length - (n + 1), by omega, rfl, hlt, q⟩, fun x H3 y => ?_⟩
          obtain ⟨x3, f3, r3, kp3⟩ := wk.yld m2 O3 H2 n ws[n] x H3 (by simp [hlt]) x2.toKp f2 y
          rw [List.drop_eq_getElem_cons hlt] at e2
          unfold lcM at e2
          split at e2
          · rename_i Γ3 hg3
            have x13 := x2.trans x3
            have s3 : SFit K m2 H3 (wipeA Γ vs) (L2.wipe σ vs) := (s.ext (x1.trans x13)).wipes vs
            refine hg m2 H3 _ Γ3 _ _ x _ r3 s3 hg3 fun σ4 s4 w4 => ⟨w4.trans TB.wipe_wipe, ?_⟩
            have hD3 := kp3 D _ hD
            have rs3 := rs.ext x3
            split at e2
            · rename_i O5 h5
              refine ⟨m2, Γ3, O3, _, O5, f3, s4, h5, fun m6 H6 x6 f6 => ?_⟩
              dsimp only
              rw [if_pos rfl]
              have hD6 := x6.kp D _ nD2 hD3
              have nD6 := x6.notin hD3 nD2
              have s6 := s4.ext x6
              have rs6 := rs3.ext x6
              have x16 := x13.trans x6
              split at e2
              · rename_i ys O7 h7
                split at e2
                · rename_i acc' O8 h8
                  have hfin := lcM_len e2
                  refine ⟨m6, Γ3, O5, ys, O7, f6, s6, h7, fun J1 m9 H9 x9 f9 wk1 => ?_⟩
                  have hD9 := x9.kp D _ nD6 hD6
                  have nD9 := x9.notin hD6 nD6
                  have s9 := s6.ext x9
                  have x19 := x16.trans x9
                  refine ⟨fun j l H' => l = ys.length - j ∧ j ≤ ys.length ∧ ∃ m2 O3 acc us, Ext m1 H1 m2 H' ∧ Kp m9 H9 m2 H' ∧ Fit K m2 O3 H' ∧ H' D = some (.lst us) ∧ D ∉ m2 ∧ Reps K m2 H' acc us ∧ lcL mg1 mt1 me (wipeA Γ3 vs1) (ys.drop j) acc O3 = some (acc', O8),
                    ⟨ys.length, by simp, Nat.zero_le _, m9, O7, acc, us, x19, Kp.refl _ _, f9, hD9, nD9, rs6.ext x9, by simpa using h8⟩, ?_⟩
                  rintro j l H10 ⟨rfl, hj, m10, O10, ac, uu, xa, xb, f10, hDa, nDa, ra, ea⟩
                  by_cases hjl : j < ys.length
                  · refine Or.inr ⟨wk1.go m10 O10 H10 j hjl xb f10, fun H' => ∃ m2 O3 acc us, Ext m1 H1 m2 H' ∧ Kp m9 H9 m2 H' ∧ Fit K m2 O3 H' ∧ H' D = some (.lst us) ∧ D ∉ m2 ∧ Reps K m2 H' acc us ∧ lcL mg1 mt1 me (wipeA Γ3 vs1) (ys.drop (j + 1)) acc O3 = some (acc', O8),
                      fun H' q => ⟨ys.length - (j + 1), by omega, rfl, hjl, q⟩, fun x' H11 y' => ?_⟩
                    obtain ⟨xc, fc, rc, kc⟩ := wk1.yld m10 O10 H10 j ys[j] x' H11 (by simp [hjl]) xb f10 y'
                    rw [List.drop_eq_getElem_cons hjl] at ea
                    unfold lcL at ea
                    split at ea
                    · rename_i Γd hgd
                      have sd : SFit K m10 H11 (wipeA Γ3 vs1) (L2.wipe σ4 vs1) := (s9.mono (xb.trans xc.toKp)).wipes vs1
                      refine hg1 m10 H11 _ Γd _ _ x' _ rc sd hgd fun σe se we => ⟨we.trans TB.wipe_wipe, ?_⟩
                      have hDc := kc D _ hDa
                      split at ea
                      · rename_i Oe he
                        refine ⟨m10, Γd, O10, _, Oe, fc, se, he, fun mf Hf xf ff => ?_⟩
                        dsimp only
                        rw [if_pos rfl]
                        split at ea
                        · rename_i v Og hgv
                          refine ⟨mf, Γd, Oe, v, Og, ff, se.ext xf, hgv, fun mh Hh u xh fh rh => ?_⟩
                          have nDf := xf.notin hDc nDa
                          have hDf := xf.kp D _ nDa hDc
                          have nDh := xh.notin hDf nDf
                          have hDh := xh.kp D _ nDf hDf
                          have un : unl (Hh D) := by rw [hDh]; trivial
                          have y1 := ((xa.trans xc).trans xf).trans xh
                          have y2 := ((xb.trans xc.toKp).trans xf.toKp).trans xh.toKp
                          have rr := ra.ext ((xc.trans xf).trans xh)
                          have hl := lcL_len ea
                          have hlen := ra.length
                          simp at hl
                          exact ⟨uu, hDh, by omega, mh, Og, ac ++ [v], uu ++ [u], y1.putAt nD un, y2.trans (Kp.put un), fh.put un nDh, upd_same, nDh, (rr.append (.cons rh .nil)).mono (Kp.put un), ea⟩
                        · cases ea
                      · rename_i Oe he
                        refine ⟨m10, Γd, O10, _, Oe, fc, se, he, fun mf Hf xf ff => ?_⟩
                        dsimp only
                        rw [if_neg (by decide)]
                        exact ⟨mf, Oe, ac, uu, (xa.trans xc).trans xf, (xb.trans xc.toKp).trans xf.toKp, ff, xf.kp D _ nDa hDc, xf.notin hDc nDa, ra.ext (xc.trans xf), ea⟩
                      · cases ea
                    · cases ea
                  · have ej : j = ys.length := by omega
                    subst ej
                    rw [List.drop_length] at ea
                    unfold lcL at ea
                    obtain ⟨rfl, rfl⟩ := Prod.mk.inj (Option.some.inj ea)
                    exact Or.inl ⟨wk1.stop m10 O10 H10 xb f10, m10, O10, ac, uu, xa, f10, hDa, nDa, ra, e2⟩
                · cases e2
              · cases e2
            · rename_i O5 h5
              refine ⟨m2, Γ3, O3, _, O5, f3, s4, h5, fun m6 H6 x6 f6 => ?_⟩
              dsimp only
              rw [if_neg (by decide)]
              exact ⟨m6, O5, acc, us, x13.trans x6, f6, x6.kp D _ nD2 hD3, x6.notin hD3 nD2, rs3.ext x6, e2⟩
            · cases e2
          · cases e2
        · have en : n = ws.length := by omega
          subst en
          rw [List.drop_length] at e2
          unfold lcM at e2
          obtain ⟨rfl, rfl⟩ := Prod.mk.inj (Option.some.inj e2)
          exact Or.inl ⟨wk.stop m2 O3 H2 x2.toKp f2, k m2 H2 _ (x1.trans x2) f2 (.lst hD nD0 nD2 rs)⟩
      · cases e
    · cases e
  · cases e
end
end TV
end
-- V6
section
set_option Elab.async false
set_option linter.all false
set_option maxRecDepth 100000
set_option maxHeartbeats 2000000
/-! V6: what is walked; built-ins of one argument; methods of lists. -/
namespace TV
open PySem L2
open TB (SqF NewT Ctx FCtx GK lk pt RelKV tOrE tOrS)
def kVa : Key → Va
  | .inl i => .int i
  | .inr x => .str x
def asF : Va → Option (List Va)
  | .tup vs => some vs
  | .lst vs => some vs
  | _ => none
def itemsOf : Va → Option (List Va)
  | .tup vs => some vs
  | .lst vs => some vs
  | .str x => some (x.cps.toList.map fun c => .str ⟨#[c]⟩)
  | .dct kvs => some (kvs.map fun p => kVa p.1)
  | _ => none
def mIt (e : Ex) : Ax := fun Γ O => match e Γ O with
  | some (v, O1) => match itemsOf v with
    | some vs => some (vs, O1)
    | none => none
  | none => none
def xArg (f : List Va → Option (List Va)) (a : Ax) : Ax := fun Γ O => match a Γ O with
  | some (vs, O1) => match f vs with
    | some ws => some (ws, O1)
    | none => none
  | none => none
def rng (lo : Int) (n : Nat) : List Va := (List.range n).map fun (k : Nat) => .int (lo + (k : Int))
def range1F : List Va → Option (List Va)
  | [.int j] => if -(2 ^ 62) ≤ j ∧ j < 2 ^ 62 then some (rng 0 j.toNat) else none
  | _ => none
def enumF : List Va → Option (List Va)
  | [v] => (asF v).map fun vs => vs.mapIdx fun i x => .tup [.int (i : Int), x]
  | _ => none
def zipF : List Va → Option (List Va)
  | [.tup xs, .tup ys] => some (List.zipWith (fun x y => .tup [x, y]) xs ys)
  | [.lst xs, .lst ys] => some (List.zipWith (fun x y => .tup [x, y]) xs ys)
  | _ => none
def lenV (O : So) : List Va → Option Va
  | [v] => match asQ O v with
    | some vs => some (.int vs.length)
    | none => match v with
      | .str z => if z.length ≤ sizeLine then some (.int z.length) else none
      | _ => match asD O v with
        | some kvs => some (.int kvs.length)
        | none => none
  | _ => none
/-- the built-in class of a value -/
def tyOf (O : So) : Va → Option String
  | .none => some "NoneType"
  | .bool _ => some "bool"
  | .int _ => some "int"
  | .str _ => some "str"
  | .tup _ => some "tuple"
  | .lst _ => some "list"
  | .dct _ => some "dict"
  | .ref n => match O[n]? with
    | some (.lst _) => some "list"
    | some (.dct _) => some "dict"
    | _ => none
def isiV (T : String) (O : So) (v : Va) : Option Va := (tyOf O v).bind fun t => (kitB t T).map .bool
def isi2V (T U : String) (O : So) (v : Va) : Option Va := (tyOf O v).bind fun t => (kitB t T).bind fun b => (kitB t U).map fun c => .bool (b || c)
def boolOf : Va → Option Bool
  | .bool b => some b
  | _ => none
def boolsOf : List Va → Option (List Bool)
  | [] => some []
  | v :: vs => match boolOf v, boolsOf vs with
    | some b, some bs => some (b :: bs)
    | _, _ => none
def allV (O : So) : List Va → Option Va
  | [v] => (asL O v).bind fun vs => (boolsOf vs).map fun bs => .bool (bs.all id)
  | _ => none
def anyV (O : So) : List Va → Option Va
  | [v] => (asL O v).bind fun vs => (boolsOf vs).map fun bs => .bool (bs.any id)
  | _ => none
def tupleV (O : So) : List Va → Option Va
  | [v] => (asQ O v).map .tup
  | _ => none
def listV (O : So) : List Va → Option Va
  | [v] => (asQ O v).map .lst
  | _ => none
/-! methods of a list that is followed -/
def mMeth (f : So → Nat → List Va → Option (Va × So)) (o : Ex) (a : Ax) : Ex := fun Γ O => match o Γ O with
  | some (.ref n, O1) => match O1[n]? with
    | some (.lst _) => match a Γ O1 with
      | some (vs, O2) => f O2 n vs
      | none => none
    | _ => none
  | _ => none
def appendM (O : So) (n : Nat) : List Va → Option (Va × So)
  | [v] => match O[n]? with
    | some (.lst vs) => if vs.length < sizeLine then some (.none, O.set n (.lst (vs ++ [v]))) else none
    | _ => none
  | _ => none
def extendM (O : So) (n : Nat) : List Va → Option (Va × So)
  | [v] => match O[n]?, asQ O v with
    | some (.lst vs), some ws => if vs.length + ws.length ≤ sizeLine then some (.none, O.set n (.lst (vs ++ ws))) else none
    | _, _ => none
  | _ => none
def popM (O : So) (n : Nat) : List Va → Option (Va × So)
  | [] => match O[n]? with
    | some (.lst vs) => match vs.getLast? with
      | some v => some (v, O.set n (.lst vs.dropLast))
      | none => none
    | _ => none
  | _ => none
section
variable {K : PySem.W.Frag} {m : List Addr} {H : Hp} {O : So} {Γ : Ga} {σ : L2.St} {me : Ex} {mx : Ax}
/-! walks -/
theorem Kp.l (x : Kp m H m' H') {a : Addr} {xs : List V} (h : LstF K H a xs) : SqL K H' a xs := (x.lf h).l
theorem Kp.t (x : Kp m H m' H') {a : Addr} {xs : List V} (h : SqF K H a xs) : SqT K H' a xs := (x.f h).t
theorem wk_at {J : It} {xs : List V} {vs : List Va} {G : Hp → Prop} (w : L2.Walk J xs.length G (YAt xs)) (hG : ∀ m1 H1, Kp m H m1 H1 → G H1) (r : Reps K m H vs xs) : Wk K false m H J vs := by
  have hl := r.length
  refine ⟨fun m1 O1 H1 n hn x f => w.goes n H1 (by omega) (hG m1 H1 x), fun m1 O1 H1 n v u H2 hv x f y => ?_, fun m1 O1 H1 x f => by rw [hl]; exact w.stops H1 (hG m1 H1 x)⟩
  have hn := (List.getElem?_eq_some_iff.mp hv).1
  obtain ⟨e1, e2⟩ := w.yields n H1 u H2 (by omega) (hG m1 H1 x) y
  subst e1
  obtain ⟨z, e3, r3⟩ := r.get hv
  rw [e2] at e3; cases e3
  exact ⟨Ext.refl _ _, f, r3.mono x, fun _ _ h => h⟩
theorem wk_pair {J : It} {n0 : Nat} {vs : List Va} {G : Hp → Prop} {fx fy : Nat → Option V} (w : L2.Walk J n0 G (YPair fx fy)) (hG : ∀ m1 H1, Kp m H m1 H1 → G H1) (hl : vs.length = n0)
    (hv : ∀ (n : Nat) (v : Va), vs[n]? = some v → ∃ a b x y, v = .tup [a, b] ∧ fx n = some x ∧ fy n = some y ∧ Rep K m H a x ∧ Rep K m H b y) : Wk K true m H J vs := by
  refine ⟨fun m1 O1 H1 n hn x f => w.goes n H1 (by omega) (hG m1 H1 x), fun m1 O1 H1 n v u H2 e x f y => ?_, fun m1 O1 H1 x f => by rw [hl]; exact w.stops H1 (hG m1 H1 x)⟩
  have hn := (List.getElem?_eq_some_iff.mp e).1
  obtain ⟨T, p, q, rfl, nT, rfl, e1, e2⟩ := w.yields n H1 u H2 (by omega) (hG m1 H1 x) y
  obtain ⟨a, b, x', y', rfl, e3, e4, r3, r4⟩ := hv n v e
  rw [e1] at e3; cases e3
  rw [e2] at e4; cases e4
  have ex : Ext m1 H1 m1 (upd H1 T (.tup [p, q])) := Ext.lay nT
  exact ⟨ex, f.lay nT, Or.inr ⟨_, T, _, rfl, rfl, SqT.of upd_same, .cons ((r3.mono x).ext ex) (.cons ((r4.mono x).ext ex) .nil)⟩, fun a o h => by rw [upd_ne (ne_of_none h nT)]; exact h⟩
theorem _root_.L2.PI.weak {X : Cx} {tg e : Expr} {t t' : TI} (h : PI X tg e t) (k : ∀ σ H R, t' σ H R → t σ H R) : PI X tg e t' := ⟨fun pins s σ H R I w => h.run pins s σ H R I (k σ H R w)⟩
theorem _root_.L2.PI.or {X : Cx} {tg e : Expr} {t t' : TI} (h : PI X tg e t) (k : PI X tg e t') : PI X tg e (fun σ H R => t σ H R ∨ t' σ H R) := ⟨fun pins s σ H R I w => w.elim (h.run pins s σ H R I) (k.run pins s σ H R I)⟩
theorem rep_kVa (k : Key) : Rep K m H (kVa k) (kV k) := by cases k <;> constructor
theorem RepKV.get {ds : List (Key × Va)} {kvs : List (Key × V)} {n : Nat} {k : Key} {v : Va} (h : RepKV K m H ds kvs) (e : ds[n]? = some (k, v)) : ∃ x, kvs[n]? = some (k, x) ∧ Rep K m H v x := by
  induction ds generalizing kvs n with
  | nil => simp at e
  | cons d ds ih =>
    cases h with
    | cons h r =>
      cases n with
      | zero => simp at e; obtain ⟨rfl, rfl⟩ := e; exact ⟨_, rfl, h⟩
      | succ n => simpa using ih r (by simpa using e)
theorem RepKV.length {ds : List (Key × Va)} {kvs : List (Key × V)} (h : RepKV K m H ds kvs) : ds.length = kvs.length := Paired.length h.rel
theorem mIt_some {ws : List Va} {O' : So} (h : mIt me Γ O = some (ws, O')) : ∃ v, me Γ O = some (v, O') ∧ itemsOf v = some ws := by
  unfold mIt at h
  split at h
  · rename_i v O1 h1
    split at h
    · rename_i vs h2
      obtain ⟨rfl, rfl⟩ := Prod.mk.inj (Option.some.inj h)
      exact ⟨v, h1, h2⟩
    · cases h
  · cases h
theorem t_it : ∀ σ H R, TIm K false (mIt me) σ H R → TB.iSeq K (TEm K me) σ H R ∨ iStr (TEm K me) σ H R ∨ iKeys (TEm K me) σ H R := by
  rintro σ H R ⟨m, Γ, O, ws, O', f, s, e, k⟩
  obtain ⟨v, h1, h2⟩ := mIt_some e
  cases v with
  | tup vs =>
    cases h2
    refine Or.inl ⟨m, Γ, O, _, _, f, s, h1, fun m1 H1 u x1 f1 r1 => ?_⟩
    cases r1 with
    | @tup a xs _ h r => exact Or.inr ⟨a, rfl, ⟨xs, h.t⟩, k _ m1 H1 x1 f1 (wk_at walk_tup (fun m2 H2 x => x.t h) r)⟩
  | lst vs =>
    cases h2
    refine Or.inl ⟨m, Γ, O, _, _, f, s, h1, fun m1 H1 u x1 f1 r1 => ?_⟩
    cases r1 with
    | @lst a xs _ h r => exact Or.inl ⟨a, rfl, ⟨xs, h.l⟩, k _ m1 H1 x1 f1 (wk_at walk_list (fun m2 H2 x => x.l h) r)⟩
  | str z =>
    cases h2
    refine Or.inr (Or.inl ⟨m, Γ, O, _, _, f, s, h1, fun m1 H1 u x1 f1 r1 => ?_⟩)
    cases r1
    refine ⟨z, rfl, k _ m1 H1 x1 f1 ⟨fun m2 O2 H2 n hn x f => ?_, fun m2 O2 H2 n w u H3 hw x f y => ?_, fun m2 O2 H2 x f => ?_⟩⟩
    · show n < z.cps.size
      simpa using hn
    · obtain ⟨e1, c, hc, e2⟩ := y
      subst e1 e2
      have : w = .str ⟨#[c]⟩ := by
        rw [List.getElem?_map] at hw
        have hc' : z.cps.toList[n]? = some c := by simpa using hc
        rw [hc'] at hw; cases hw; rfl
      subst this
      exact ⟨Ext.refl _ _, f, .str _, fun _ _ h => h⟩
    · show z.cps.size ≤ _
      simp
  | dct kvs =>
    cases h2
    refine Or.inr (Or.inr ⟨m, Γ, O, _, _, f, s, h1, fun m1 H1 u x1 f1 r1 => ?_⟩)
    cases r1 with
    | @dct a kv _ o h r =>
      have hl := r.length
      refine ⟨a, o, rfl, Or.inl ⟨kv, h, k _ m1 H1 x1 f1 ⟨fun m2 O2 H2 n hn x f => ⟨x.fz _ _ _ h, by simp at hn; omega⟩, fun m2 O2 H2 n w u H3 hw x f y => ?_, fun m2 O2 H2 x f => ⟨x.fz _ _ _ h, by simp; omega⟩⟩⟩⟩
      obtain ⟨e1, kk, v, e2, e3⟩ := y
      subst e1 e3
      rw [List.getElem?_map] at hw
      cases hd : kvs[n]? with
      | none => rw [hd] at hw; cases hw
      | some p =>
        obtain ⟨k', v'⟩ := p
        rw [hd] at hw; cases hw
        obtain ⟨z, e4, _⟩ := r.get hd
        rw [e2] at e4; cases e4
        exact ⟨Ext.refl _ _, f, rep_kVa kk, fun _ _ h => h⟩
  | _ => cases h2
theorem xArg_some {fn : List Va → Option (List Va)} {ws : List Va} {O' : So} (h : xArg fn mx Γ O = some (ws, O')) : ∃ vs, mx Γ O = some (vs, O') ∧ fn vs = some ws := by
  unfold xArg at h
  split at h
  · rename_i v O1 h1
    split at h
    · rename_i vs h2
      obtain ⟨rfl, rfl⟩ := Prod.mk.inj (Option.some.inj h)
      exact ⟨v, h1, h2⟩
    · cases h
  · cases h
theorem wk_rng {lo : Int} {n : Nat} : Wk K false m H (Itr lo n) (rng lo n) := by
  refine ⟨fun m1 O1 H1 i hi x f => ?_, fun m1 O1 H1 i w u H2 hw x f y => ?_, fun m1 O1 H1 x f => ?_⟩
  · show i < n
    simpa [rng] using hi
  · obtain ⟨e1, e2⟩ := y
    subst e1 e2
    have hi : i < n := by have := (List.getElem?_eq_some_iff.mp hw).1; simpa [rng] using this
    have : w = .int (lo + (i : Int)) := by
      have e : (rng lo n)[i]? = some (.int (lo + (i : Int))) := by simp [rng, hi]
      rw [e] at hw; cases hw; rfl
    subst this
    exact ⟨Ext.refl _ _, f, .int _, fun _ _ h => h⟩
  · show n ≤ _
    simp [rng]
theorem t_rng1 : ∀ σ H R, TIm K false (xArg range1F mx) σ H R → iRng1 (TAm K mx) σ H R := by
  rintro σ H R ⟨m, Γ, O, ws, O', f, s, e, k⟩
  obtain ⟨vs, h1, h2⟩ := xArg_some e
  unfold range1F at h2
  split at h2
  · rename_i j
    split at h2
    · rename_i hj
      cases h2
      refine ⟨m, Γ, O, _, _, f, s, h1, fun m1 H1 u x1 f1 r1 => ?_⟩
      cases r1 with
      | cons r1 r =>
        cases r; cases r1
        exact ⟨j, rfl, hj.1, hj.2, k _ m1 H1 x1 f1 wk_rng⟩
    · cases h2
  · cases h2
theorem t_enum : ∀ σ H R, TIm K true (xArg enumF mx) σ H R → TB.iEnumA K (TAm K mx) σ H R := by
  rintro σ H R ⟨m, Γ, O, ws, O', f, s, e, k⟩
  obtain ⟨vs, h1, h2⟩ := xArg_some e
  unfold enumF at h2
  split at h2
  · rename_i v
    refine ⟨m, Γ, O, _, _, f, s, h1, fun m1 H1 u x1 f1 r1 => ?_⟩
    have item : ∀ (xs : List V) (ys : List Va), Reps K m1 H1 ys xs → ws = (ys.mapIdx fun i x => Va.tup [.int (i : Int), x]) → ∀ (n : Nat) (w : Va), ws[n]? = some w → ∃ a b x y, w = .tup [a, b] ∧ some (V.int (n : Nat)) = some x ∧ xs[n]? = some y ∧ Rep K m1 H1 a x ∧ Rep K m1 H1 b y := by
      intro xs ys r e n w hw
      subst e
      rw [List.getElem?_mapIdx] at hw
      cases hy : ys[n]? with
      | none => rw [hy] at hw; cases hw
      | some y =>
        rw [hy] at hw; cases hw
        obtain ⟨z, e3, r3⟩ := r.get hy
        exact ⟨_, _, _, z, rfl, rfl, e3, .int _, r3⟩
    cases r1 with
    | cons r1 r =>
      cases r
      cases v with
      | lst ys =>
        cases h2
        cases r1 with
        | @lst a xs _ h r => exact Or.inl ⟨a, xs, rfl, h.l, k _ m1 H1 x1 f1 (wk_pair walk_enum (fun m2 H2 x => x.l h) (by rw [List.length_mapIdx]; exact r.length) (item xs ys r rfl))⟩
      | tup ys =>
        cases h2
        cases r1 with
        | @tup a xs _ h r =>
          refine Or.inr ⟨a, xs, rfl, h.t, k _ m1 H1 x1 f1 (wk_pair (J := TB.IteT K a) (n0 := xs.length) (G := fun H => SqT K H a xs) (fx := fun i => some (.int (i : Nat))) (fy := fun i => xs[i]?) ?_ (fun m2 H2 x => x.t h) (by rw [List.length_mapIdx]; exact r.length) (item xs ys r rfl))⟩
          refine ⟨fun i _ hi q => ⟨xs, xs[i], q, by simp [hi]⟩, fun _ q => ⟨xs, q, Nat.le_refl _⟩, fun i H v H' _ q y => ?_⟩
          obtain ⟨T, x, h1, h2, h3, h4⟩ := y
          exact ⟨T, .int (i : Nat), x, h1, h2, h3, rfl, h4 xs q⟩
      | _ => cases h2
  · cases h2
theorem t_zip : ∀ σ H R, TIm K true (xArg zipF mx) σ H R → RZ.iZipA K (TAm K mx) σ H R := by
  rintro σ H R ⟨m, Γ, O, ws, O', f, s, e, k⟩
  obtain ⟨vs, h1, h2⟩ := xArg_some e
  have item : ∀ m1 H1 (xs ys : List V) (as bs : List Va), Reps K m1 H1 as xs → Reps K m1 H1 bs ys → ws = List.zipWith (fun x y => Va.tup [x, y]) as bs → ∀ (n : Nat) (w : Va), ws[n]? = some w → ∃ a b x y, w = .tup [a, b] ∧ xs[n]? = some x ∧ ys[n]? = some y ∧ Rep K m1 H1 a x ∧ Rep K m1 H1 b y := by
    intro m1 H1 xs ys as bs ra rb e n w hw
    subst e
    rw [List.getElem?_zipWith] at hw
    cases ha : as[n]? with
    | none => rw [ha] at hw; cases hw
    | some a =>
      cases hb : bs[n]? with
      | none => rw [ha, hb] at hw; cases hw
      | some b =>
        rw [ha, hb] at hw; cases hw
        obtain ⟨x, e1, r1⟩ := ra.get ha
        obtain ⟨y, e2, r2⟩ := rb.get hb
        exact ⟨a, b, x, y, rfl, e1, e2, r1, r2⟩
  unfold zipF at h2
  split at h2
  · rename_i as bs
    cases h2
    refine ⟨m, Γ, O, _, _, f, s, h1, fun m1 H1 u x1 f1 r1 => ?_⟩
    cases r1 with
    | cons r1 r =>
      cases r with
      | cons r2 r =>
        cases r
        cases r1 with
        | @tup a xs _ ha ra =>
          cases r2 with
          | @tup b ys _ hb rb =>
            have l1 := ra.length
            have l2 := rb.length
            refine ⟨a, b, xs, ys, rfl, Or.inr ⟨ha.t, hb.t, k _ m1 H1 x1 f1 (wk_pair (J := RZ.ItzT K a b) (n0 := min xs.length ys.length) (G := fun H => SqT K H a xs ∧ SqT K H b ys) (fx := fun i => xs[i]?) (fy := fun i => ys[i]?) ?_ (fun m2 H2 x => ⟨x.t ha, x.t hb⟩) (by rw [List.length_zipWith]; omega) (item m1 H1 xs ys as bs ra rb rfl))⟩⟩
            refine ⟨fun i _ hi q => ?_, fun _ q => ⟨xs, ys, q.1, q.2, by omega⟩, fun i H v H' _ q y => ?_⟩
            · have h1 : i < xs.length := by omega
              have h2 : i < ys.length := by omega
              exact ⟨xs, ys, xs[i], ys[i], q.1, q.2, by simp [h1], by simp [h2]⟩
            · obtain ⟨T, x, z, h1, h2, h3, h4, h5⟩ := y
              exact ⟨T, x, z, h1, h2, h3, h4 xs q.1, h5 ys q.2⟩
  · rename_i as bs
    cases h2
    refine ⟨m, Γ, O, _, _, f, s, h1, fun m1 H1 u x1 f1 r1 => ?_⟩
    cases r1 with
    | cons r1 r =>
      cases r with
      | cons r2 r =>
        cases r
        cases r1 with
        | @lst a xs _ ha ra =>
          cases r2 with
          | @lst b ys _ hb rb =>
            have l1 := ra.length
            have l2 := rb.length
            exact ⟨a, b, xs, ys, rfl, Or.inl ⟨ha.l, hb.l, k _ m1 H1 x1 f1 (wk_pair (walk_zip (n := min xs.length ys.length) rfl) (fun m2 H2 x => ⟨x.l ha, x.l hb⟩) (by rw [List.length_zipWith]; omega) (item m1 H1 xs ys as bs ra rb rfl))⟩⟩
  · cases h2
/-! built-ins -/
def Sem1 (K : PySem.W.Frag) (f : So → List Va → Option Va) (r : List V → Hp → VK → Prop) : Prop := ∀ m O H xs us w Q, Fit K m O H → Reps K m H xs us → f O xs = some w → (∀ m' H' z, Ext m H m' H' → Fit K m' O H' → Rep K m' H' w z → Q z H') → r us H Q
theorem rep_ty {v : Va} {u : V} {t : String} (f : Fit K m O H) (r : Rep K m H v u) (e : tyOf O v = some t) : TyX K H u (.type t) := by
  cases r with
  | non => cases e; exact .base .non
  | bl b => cases e; exact .base (.bl b)
  | int i => cases e; exact .base (.int i)
  | str x => cases e; exact .base (.str x)
  | tup h _ =>
    cases e
    rcases h.t with (h | ⟨o, h⟩) | ⟨o, its, n, h, c, _⟩
    · exact .base (.tup h)
    · exact .fTuple h
    · exact .kTuple h c
  | lst h _ =>
    cases e
    rcases h with ⟨o, h⟩ | ⟨its, n, h, _⟩
    · exact .base (.frz h)
    · exact .kList h rfl
  | dct h _ => cases e; exact .fDict h
  | @ref n p h =>
    simp only [tyOf] at e
    split at e
    · rename_i vs hn
      cases e
      obtain ⟨xs, h1, _⟩ := f.lstAt h hn
      exact .base (.lst h1)
    · rename_i vs hn
      cases e
      obtain ⟨xs, h1, _⟩ := f.dctAt h hn
      exact .base (.dK h1)
    · cases e
theorem t_isi {T : String} : ∀ σ H Q, TEm K (mUn (isiV T) me) σ H Q → tCB (fun xs H Q => rIsi K xs H Q ∨ rIsiT K xs H Q) (tCons (TEm K me) (tCons (tC (.ty T)) tNil)) σ H Q := by
  rintro σ H Q ⟨m, Γ, O, w, O', f, s, e, k⟩
  obtain ⟨x, h1, h2⟩ := mUn_some e
  refine ⟨m, Γ, O, x, O', f, s, h1, fun m1 H1 u x1 f1 r1 => ?_⟩
  unfold isiV at h2
  cases ht : tyOf O' x with
  | none => rw [ht] at h2; cases h2
  | some t =>
    rw [ht] at h2
    cases hb : kitB t T with
    | none => simp [hb] at h2
    | some b =>
      simp [hb] at h2
      subst h2
      exact Or.inl ⟨u, .ty T, _, _, b, rfl, .ty T, rep_ty f1 r1 ht, kit_ty hb, k m1 H1 _ x1 f1 (.bl b)⟩
theorem t_isi2 {T U : String} : ∀ σ H Q, TEm K (mUn (isi2V T U) me) σ H Q → tCB (fun xs H Q => rIsi K xs H Q ∨ rIsiT K xs H Q) (tCons (TEm K me) (tCons (tTup (tCons (tC (.ty T)) (tCons (tC (.ty U)) tNil))) tNil)) σ H Q := by
  rintro σ H Q ⟨m, Γ, O, w, O', f, s, e, k⟩
  obtain ⟨x, h1, h2⟩ := mUn_some e
  refine ⟨m, Γ, O, x, O', f, s, h1, fun m1 H1 u x1 f1 r1 => ?_⟩
  unfold isi2V at h2
  cases ht : tyOf O' x with
  | none => rw [ht] at h2; cases h2
  | some t =>
    rw [ht] at h2
    cases hb : kitB t T with
    | none => simp [hb] at h2
    | some b =>
      cases hc : kitB t U with
      | none => simp [hb, hc] at h2
      | some c =>
        simp [hb, hc] at h2
        subst h2
        refine ⟨by show 2 ≤ sizeLine; decide, fun p np => Or.inr ⟨u, p, _, .type t, [.type T, .type U], b || c, rfl, upd_same, .cons (.ty T) (.cons (.ty U) .nil), rep_ty (f1.lay np) (r1.ext (Ext.lay np)) ht, ?_, k m1 _ _ (x1.trans (Ext.lay np)) (f1.lay np) (.bl _)⟩⟩
        refine kitAny_cons (kit_ty hb) (fun hf => ?_) (fun hf => by rw [hf]; rfl)
        subst hf
        exact kitAny_cons (kit_ty hc) (fun hf => by subst hf; rfl) (fun hf => by rw [hf]; rfl)
theorem bools_rep : ∀ {vs : List Va} {xs : List V} {bs : List Bool}, Reps K m H vs xs → boolsOf vs = some bs → xs = bs.map V.bl
  | [], _, _, h, e => by cases e; cases h; rfl
  | v :: vs, _, bs, h, e => by
    cases h with
    | @cons _ _ x xs h r =>
      unfold boolsOf at e
      split at e
      · rename_i b bs' hb hbs
        cases e
        have := bools_rep r hbs
        subst this
        cases h <;> cases hb
        rfl
      · cases e
theorem sem_all : Sem1 K allV (rAll K) := by
  intro m O H xs us w Q f r e k
  unfold allV at e
  split at e
  · rename_i v
    cases hl : asL O v with
    | none => simp [hl] at e
    | some vs =>
      cases hb : boolsOf vs with
      | none => simp [hl, hb] at e
      | some bs =>
        simp [hl, hb] at e
        subst e
        cases r with
        | cons r rr =>
          cases rr
          obtain ⟨a, ys, rfl, h, rs⟩ := rep_L f hl r
          have := bools_rep rs hb
          subst this
          refine ⟨a, bs, rfl, h.l, k m H _ (Ext.refl _ _) f (.bl _)⟩
  · cases e
theorem sem_any : Sem1 K anyV (rAny K) := by
  intro m O H xs us w Q f r e k
  unfold anyV at e
  split at e
  · rename_i v
    cases hl : asL O v with
    | none => simp [hl] at e
    | some vs =>
      cases hb : boolsOf vs with
      | none => simp [hl, hb] at e
      | some bs =>
        simp [hl, hb] at e
        subst e
        cases r with
        | cons r rr =>
          cases rr
          obtain ⟨a, ys, rfl, h, rs⟩ := rep_L f hl r
          have := bools_rep rs hb
          subst this
          refine ⟨a, bs, rfl, h.l, k m H _ (Ext.refl _ _) f (.bl _)⟩
  · cases e
theorem sem_tuple : Sem1 K tupleV (TB.rTupF K) := by
  intro m O H xs us w Q f r e k
  unfold tupleV at e
  split at e
  · rename_i v
    cases r with
    | cons r rr =>
      cases rr
      cases v with
      | tup vs =>
        simp [asQ] at e
        subst e
        cases r with
        | @tup a ys _ h rs => exact ⟨a, ys, rfl, Or.inr ⟨h.t, k m H _ (Ext.refl _ _) f (.tup h rs)⟩⟩
      | lst vs =>
        simp [asQ] at e
        subst e
        cases r with
        | @lst a ys _ h rs => exact ⟨a, ys, rfl, Or.inl ⟨h.l, newT f rs k⟩⟩
      | ref n =>
        cases hl : asL O (.ref n) with
        | none =>
          have : asQ O (.ref n) = none := hl
          rw [this] at e; cases e
        | some vs =>
          have hq : asQ O (.ref n) = some vs := hl
          rw [hq] at e; cases e
          obtain ⟨a, ys, rfl, h, rs⟩ := rep_L f hl r
          exact ⟨a, ys, rfl, Or.inl ⟨h.l, newT f rs k⟩⟩
      | _ => cases e
  · cases e
theorem sem_list : ∀ m O H xs us w Q, Fit K m O H → Reps K m H xs us → listV O xs = some w → (∀ m' H' z, Ext m H m' H' → Fit K m' O H' → Raw K H m' H' w z → Q z H') → TB.rLstOf K us H Q := by
  intro m O H xs us w Q f r e k
  unfold listV at e
  split at e
  · rename_i v
    cases hq : asQ O v with
    | none => rw [hq] at e; cases e
    | some vs =>
      rw [hq] at e; cases e
      cases r with
      | cons r rr =>
        cases rr
        obtain ⟨a, ys, rfl, h, rs⟩ := rep_Q f hq r
        refine ⟨a, ys, rfl, h, fun l nl => ?_⟩
        obtain ⟨h1, h2, h3⟩ := Raw.new f nl rs
        exact k m _ _ h1 h2 h3
  · cases e
end
end TV
end
-- V7
section
set_option Elab.async false
set_option linter.all false
set_option maxRecDepth 100000
set_option maxHeartbeats 2000000
/-! V7: methods, statements, defs and their calls. -/
namespace TV
open PySem L2
open TB (SqF NewT Ctx FCtx GK lk pt RelKV tOrE tOrS Def DefN FnG FunS TopF)
abbrev Fn := List Va → So → Option (Va × So)
mutual
/-- no reference at or beyond n -/
def below (n : Nat) : Va → Bool
  | .tup vs => belowAll n vs
  | .lst vs => belowAll n vs
  | .dct kvs => belowKV n kvs
  | .ref k => decide (k < n)
  | _ => true
def belowAll (n : Nat) : List Va → Bool
  | [] => true
  | v :: vs => below n v && belowAll n vs
def belowKV (n : Nat) : List (Key × Va) → Bool
  | [] => true
  | (_, v) :: vs => below n v && belowKV n vs
end
def obBelow (n : Nat) : Ob → Bool
  | .lst vs => belowAll n vs
  | .dct kvs => belowKV n kvs
  | .dead => true
def closed (O : So) (r : Va) (O' : So) : Prop := below O.length r = true ∧ ∀ k, k < O.length → O'[k]? = O[k]? ∨ ∃ b, O'[k]? = some b ∧ obBelow O.length b = true
open Classical in
/-- what a def has made and left behind is forgotten, where nothing points there -/
noncomputable def gc (O : So) (r : Va) (O' : So) : So := if closed O r O' then O'.take O.length else O'
def start (n : Nat) (args : List Va) : Ga := args.map some ++ List.replicate (n - args.length) none
/-- a def of np parameters and n slots -/
noncomputable def fn (np n : Nat) (b : Sm) : Fn := fun args O => if args.length = np then match b (start n args) O with
  | some (.rt v, O') => some (v, gc O v O')
  | some (.nx _, O') => some (.none, gc O .none O')
  | _ => none
  else none
def mCall (F : Fn) (ds : List Va) (as : Ax) : Ex := fun Γ O => match as Γ O with
  | some (xs, O1) => F (xs ++ ds) O1
  | none => none
def mCallN (F : Fn) (n k : Nat) (g : List Va → List Va → List Va) (as ks : Ax) : Ex := fun Γ O => match as Γ O with
  | some (xs, O1) => match ks Γ O1 with
    | some (zs, O2) => if xs.length = n ∧ zs.length = k then F (g xs zs) O2 else none
    | none => none
  | none => none
section
variable {K : PySem.W.Frag} {m m' : List Addr} {H H' : Hp} {O O' : So}
mutual
theorem Rep.blw : ∀ {v : Va} {u : V}, Rep K m H v u → TV.below m.length v = true
  | .none, _, _ => rfl
  | .bool _, _, _ => rfl
  | .int _, _, _ => rfl
  | .str _, _, _ => rfl
  | .tup vs, _, h => by
    cases h with
    | tup _ r => simpa [TV.below] using Reps.blw r
  | .lst vs, _, h => by
    cases h with
    | lst _ r => simpa [TV.below] using Reps.blw r
  | .dct vs, _, h => by
    cases h with
    | dct _ r => simpa [TV.below] using RepKV.blw r
  | .ref n, _, h => by
    cases h with
    | ref h => simpa [TV.below] using (List.getElem?_eq_some_iff.mp h).1
theorem Reps.blw : ∀ {vs : List Va} {us : List V}, Reps K m H vs us → belowAll m.length vs = true
  | [], _, _ => rfl
  | v :: vs, _, h => by
    cases h with
    | cons h r => simp [belowAll, Rep.blw h, Reps.blw r]
theorem RepKV.blw : ∀ {vs : List (Key × Va)} {us : List (Key × V)}, RepKV K m H vs us → belowKV m.length vs = true
  | [], _, _ => rfl
  | (k, v) :: vs, _, h => by
    cases h with
    | cons h r => simp [belowKV, Rep.blw h, RepKV.blw r]
end
mutual
theorem Rep.cutM (x : m <+: m') : ∀ {v : Va} {u : V}, Rep K m' H v u → TV.below m.length v = true → Rep K m H v u
  | .none, _, h, _ => by cases h; exact .non
  | .bool _, _, h, _ => by cases h; exact .bl _
  | .int _, _, h, _ => by cases h; exact .int _
  | .str _, _, h, _ => by cases h; exact .str _
  | .tup vs, _, h, b => by
    cases h with
    | tup h r => exact .tup h (Reps.cutM x r (by simpa [TV.below] using b))
  | .lst vs, _, h, b => by
    cases h with
    | lst h r => exact .lst h (Reps.cutM x r (by simpa [TV.below] using b))
  | .dct vs, _, h, b => by
    cases h with
    | dct h r => exact .dct h (RepKV.cutM x r (by simpa [TV.below] using b))
  | .ref n, _, h, b => by
    cases h with
    | ref h =>
      have hn : n < m.length := by simpa [TV.below] using b
      obtain ⟨t, rfl⟩ := x
      rw [List.getElem?_append_left hn] at h
      exact .ref h
theorem Reps.cutM (x : m <+: m') : ∀ {vs : List Va} {us : List V}, Reps K m' H vs us → belowAll m.length vs = true → Reps K m H vs us
  | [], _, h, _ => by cases h; exact .nil
  | v :: vs, _, h, b => by
    rw [belowAll, Bool.and_eq_true] at b
    cases h with
    | cons h r => exact .cons (Rep.cutM x h b.1) (Reps.cutM x r b.2)
theorem RepKV.cutM (x : m <+: m') : ∀ {vs : List (Key × Va)} {us : List (Key × V)}, RepKV K m' H vs us → belowKV m.length vs = true → RepKV K m H vs us
  | [], _, h, _ => by cases h; exact .nil
  | (k, v) :: vs, _, h, b => by
    rw [belowKV, Bool.and_eq_true] at b
    cases h with
    | cons h r => exact .cons (Rep.cutM x h b.1) (RepKV.cutM x r b.2)
end
theorem RepOb.blw {b : Ob} {ho : Option HO} (h : RepOb K m H b ho) : obBelow m.length b = true := by
  cases b with
  | dead => rfl
  | lst vs =>
    cases ho with
    | none => exact h.elim
    | some ho =>
      cases ho with
      | lst xs => exact Reps.blw h
      | _ => exact h.elim
  | dct vs =>
    cases ho with
    | none => exact h.elim
    | some ho =>
      cases ho with
      | dK xs => exact RepKV.blw h
      | _ => exact h.elim
theorem RepOb.cutM (x : m <+: m') {b : Ob} {ho : Option HO} (h : RepOb K m' H b ho) (hb : obBelow m.length b = true) : RepOb K m H b ho := by
  cases b with
  | dead => trivial
  | lst vs =>
    cases ho with
    | none => exact h.elim
    | some ho =>
      cases ho with
      | lst xs => exact Reps.cutM x h hb
      | _ => exact h.elim
  | dct vs =>
    cases ho with
    | none => exact h.elim
    | some ho =>
      cases ho with
      | dK xs => exact RepKV.cutM x h hb
      | _ => exact h.elim
/-- behind a def: what nothing points to is forgotten -/
theorem gc_ok {r : Va} {u : V} {Q : Prop} (f : Fit K m O H) (x : Ext m H m' H') (f' : Fit K m' O' H') (rr : Rep K m' H' r u) (k : ∀ m2, Ext m H m2 H' → Fit K m2 (gc O r O') H' → Rep K m2 H' r u → Q) : Q := by
  by_cases hc : closed O r O'
  · rw [show gc O r O' = O'.take O.length from if_pos hc] at k
    obtain ⟨h1, h2⟩ := hc
    rw [← f.len] at h1
    refine k m ⟨⟨List.prefix_refl _, x.fz⟩, fun _ h => Or.inl h, x.kp⟩ ?_ (rr.cutM x.ix h1)
    have hle : m.length ≤ O'.length := by rw [← f'.len]; exact x.ix.length_le
    refine ⟨by rw [List.length_take, ← f.len]; omega, f.nd, fun p hp => f'.us p (x.ix.subset hp), fun n p b e1 e2 => ?_⟩
    have hn : n < O.length := by rw [← f.len]; exact (List.getElem?_eq_some_iff.mp e1).1
    rw [List.getElem?_take_of_lt hn] at e2
    have r2 := f'.ob n p b (x.at e1) e2
    refine r2.cutM x.ix ?_
    rcases h2 n hn with h | ⟨b', hb, hb'⟩
    · rw [h] at e2
      exact (f.ob n p b e1 e2).blw
    · rw [e2] at hb; cases hb
      rw [f.len]; exact hb'
  · rw [show gc O r O' = O' from if_neg hc] at k
    exact k m' x f' rr
/-! ### defs -/
/-- called with such values, F's value and store -/
def spF (K : PySem.W.Frag) (F : Fn) : Sp := fun vs H Q _ => ∃ m O args r O', Fit K m O H ∧ Reps K m H args vs ∧ F args O = some (r, O') ∧ ∀ m' H' v, Ext m H m' H' → Fit K m' O' H' → Rep K m' H' r v → Q v H'
theorem start_fit {N : List Str} {ws : List Va} {vs : List V} (r : Reps K m H ws vs) : SFit K m H (start N.length ws) (L2.start N vs) := by
  unfold start L2.start
  rw [r.length]
  refine TB.paired_append ?_ ?_
  · have : ∀ {ws : List Va} {vs : List V}, Reps K m H ws vs → Paired (fun (w : Option Va) (v : Option V) => ∀ x, w = some x → ∃ y, v = some y ∧ Rep K m H x y) (ws.map some) (vs.map some) := fun {ws vs} r => by
      induction ws generalizing vs with
      | nil => cases r; exact .nil
      | cons w ws ih => cases r with | cons h r => exact .cons (fun x e => by cases e; exact ⟨_, rfl, h⟩) (ih r)
    exact this r
  · have : ∀ n : Nat, Paired (fun (w : Option Va) (v : Option V) => ∀ x, w = some x → ∃ y, v = some y ∧ Rep K m H x y) (List.replicate n none) (List.replicate n none) := fun n => by
      induction n with
      | zero => exact .nil
      | succ n ih => exact .cons (fun x e => by cases e) ih
    exact this _
end
section
variable {P : Program} {w : World} {K : PySem.W.Frag} {mg : Str → Option Value} {base : Heap}
theorem def_okV {x : Str} {st : Stmt} {kws : List (Str × V)} {f : Addr} {fd : FuncData} {N ps : List Str} {lv : Nat} {b : Sm} (F : FunS K x st [] kws f fd) (S : FnScope N ps (defScope st))
    (hb : ∀ X, FCtx X P w K mg base N (defScope st) lv → PSs X (defBody st) (TSm K b)) : FnG P w K mg base CX0 (lv + 1) f fd ps (spF K (fn ps.length N.length b)) := by
  refine TB.FunD.okG F S (fun vs H Q E h => ?_) (fun cdv A outer s H vs Q E hG hr h => ?_)
  · obtain ⟨m, O, args, r, O', ft, rs, e, k⟩ := h
    rw [← rs.length]
    unfold fn at e
    split at e
    · assumption
    · cases e
  · obtain ⟨m, O, args, r, O', ft, rs, e, k⟩ := h
    have h1 := hb (cxOf CX0 P w K mg base N x (defScope st) _ cdv A outer s H E).nox ⟨⟨rfl, rfl, rfl, rfl, rfl, rfl, S.nd, rfl, rfl, hr, rfl, hG⟩, fun _ => rfl⟩
    refine ⟨TSm K b, h1.nox, ?_⟩
    unfold fn at e
    split at e
    · split at e
      · rename_i v O1 h2
        obtain ⟨rfl, rfl⟩ := Prod.mk.inj (Option.some.inj e)
        exact ⟨m, _, O, _, _, ft, start_fit rs, h2, fun m' H' u x1 f1 r1 => gc_ok ft x1 f1 r1 fun m2 x2 f2 r2 => k m2 H' u x2 f2 r2⟩
      · rename_i Γ1 O1 h2
        obtain ⟨rfl, rfl⟩ := Prod.mk.inj (Option.some.inj e)
        exact ⟨m, _, O, _, _, ft, start_fit rs, h2, fun m' H' σ x1 f1 s1 => gc_ok (r := .none) (u := .non) ft x1 f1 .non fun m2 x2 f2 r2 => k m2 H' .non x2 f2 r2⟩
      · cases e
    · cases e
/-- a def by its name: F, the defaults of what is left out -/
structure DefV (P : Program) (w : World) (K : PySem.W.Frag) (mg : Str → Option Value) (base : Heap) (lv : Nat) (x : Str) (F : Fn) (ds : List Va) : Prop where
  ex : ∃ (n : Nat) (dvs : List V), (∀ m H, Reps K m H ds dvs) ∧ Def P w K mg base lv x n dvs (spF K F)
structure DefVN (P : Program) (w : World) (K : PySem.W.Frag) (mg : Str → Option Value) (base : Heap) (lv : Nat) (x : Str) (n : Nat) (ks : List Str) (g : List Va → List Va → List Va) (F : Fn) : Prop where
  ex : ∃ (gV : List V → List V → List V), (∀ m H vs us zs ws, Reps K m H vs us → Reps K m H zs ws → Reps K m H (g vs zs) (gV us ws)) ∧ DefN P w K mg base lv x n ks gV (spF K F)
variable {X : Cx} {N : List Str} {sc : Scope} {lv : Nat} {e : Expr} {es : List Expr} {mx mk : Ax} {pos : Pos}
theorem t_call {F : Fn} {ds : List Va} {dvs : List V} (hd : ∀ m H, Reps K m H ds dvs) : ∀ σ H Q, TEm K (mCall F ds mx) σ H Q → tCall (spF K F) dvs E0 (TAm K mx) σ H Q := by
  rintro σ H Q ⟨m, Γ, O, r, O', f, s, e, k⟩
  unfold mCall at e
  split at e
  · rename_i xs O1 h1
    exact ⟨m, Γ, O, xs, O1, f, s, h1, fun m1 H1 us x1 f1 r1 => ⟨m1, O1, xs ++ ds, r, O', f1, r1.append (hd m1 H1), e, fun m2 H2 v x2 f2 r2 => k m2 H2 v (x1.trans x2) f2 r2⟩⟩
  · cases e
theorem t_callN {F : Fn} {n : Nat} {k : Nat} {g : List Va → List Va → List Va} {gV : List V → List V → List V} (hg : ∀ m H vs us zs ws, Reps K m H vs us → Reps K m H zs ws → Reps K m H (g vs zs) (gV us ws)) :
    ∀ σ H Q, TEm K (mCallN F n k g mx mk) σ H Q → tCallN n k (spF K F) gV E0 (TAm K mx) (TAm K mk) σ H Q := by
  rintro σ H Q ⟨m, Γ, O, r, O', f, s, e, q⟩
  unfold mCallN at e
  split at e
  · rename_i xs O1 h1
    split at e
    · rename_i zs O2 h2
      split at e
      · rename_i hl
        exact ⟨m, Γ, O, xs, O1, f, s, h1, fun m1 H1 us x1 f1 r1 => ⟨m1, Γ, O1, zs, O2, f1, s.ext x1, h2, fun m2 H2 ws x2 f2 r2 => ⟨by rw [← r1.length]; exact hl.1, by rw [← r2.length]; exact hl.2, m2, O2, g xs zs, r, O', f2, hg m2 H2 _ _ _ _ (r1.ext x2) r2, e, fun m3 H3 v x3 f3 r3 => q m3 H3 v ((x1.trans x2).trans x3) f3 r3⟩⟩⟩
      · cases e
    · cases e
  · cases e
theorem d_call (C : Ctx X P w K mg base N sc lv) {x : Str} {l : Nat} {F : Fn} {ds : List Va} {p : Pos} (D : DefV P w K mg base l x F ds) (ha : PA X (e :: es) (TAm K mx)) (hl : l ≤ lv := by decide) (hg : GK sc x := by rfl)
    (hdb : (x == ("__debug__" : Str)) = false := by decide) (he : starEach (e :: es) X.env = (false, eval e X.env) :: starEach es X.env := by rfl) (hpl : (backTo pos (starEach es X.env)).any (·.1) = false := by rfl) :
    PE X (.Call (.Name x p) (e :: es) [] pos) (TEm K (mCall F ds mx)) := by
  obtain ⟨n, dvs, hd, D⟩ := D.ex
  exact (TB.q_call C D ha hl hg hdb he hpl).weak (t_call hd)
theorem _root_.L2.PK.weak {e : List Keyword} {t t' : TA} (h : PK X e t) (k : ∀ σ H Q, t' σ H Q → t σ H Q) : PK X e t' := ⟨fun a pins s σ H Q I w => h.run a pins s σ H Q I (k σ H Q w)⟩
theorem d_callN (C : Ctx X P w K mg base N sc lv) {x : Str} {l n : Nat} {ks : List Str} {g : List Va → List Va → List Va} {F : Fn} {kws : List Keyword} {p : Pos} (D : DefVN P w K mg base l x n ks g F) (ha : PA X (e :: es) (TAm K mx)) (hkw : PK X kws (TAm K mk)) (hl : l ≤ lv := by decide) (hg : GK sc x := by rfl)
    (hall : (backToKw pos (keywordEach kws X.env)).all (·.1.isSome) = true := by rfl) (hks : (backToKw pos (keywordEach kws X.env)).filterMap (·.1) = ks := by rfl)
    (hdb : (x == ("__debug__" : Str)) = false := by decide) (he : starEach (e :: es) X.env = (false, eval e X.env) :: starEach es X.env := by rfl)
    (hpl : ((backTo pos (starEach (e :: es) X.env)).any (·.1) || (backToKw pos (keywordEach kws X.env)).any (·.1.isNone)) = false := by rfl) :
    PE X (.Call (.Name x p) (e :: es) kws pos) (TEm K (mCallN F n ks.length g mx mk)) := by
  obtain ⟨gV, hgv, D⟩ := D.ex
  exact (TB.q_callN C D ha hkw hl hg hall hks hdb he hpl).weak (t_callN hgv)
end
end TV
end
-- V8
section
set_option Elab.async false
set_option linter.all false
set_option maxRecDepth 100000
set_option maxHeartbeats 2000000
/-! V8: the rules that a text's derivation is made of. -/
namespace TV
open PySem L2
open TB (SqF NewT Ctx FCtx GK lk pt RelKV tOrE tOrS Def DefN FnG FunS TopF)
section
variable {K : PySem.W.Frag} {Γ : Ga} {O : So} {mo : Ex} {mx : Ax}
/-! methods of a list that is followed -/
theorem mMeth_some {fm : So → Nat → List Va → Option (Va × So)} {w : Va} {O' : So} (h : mMeth fm mo mx Γ O = some (w, O')) : ∃ n O1 us vs O2, mo Γ O = some (.ref n, O1) ∧ O1[n]? = some (.lst us) ∧ mx Γ O1 = some (vs, O2) ∧ fm O2 n vs = some (w, O') := by
  unfold mMeth at h
  split at h
  · rename_i n O1 h1
    split at h
    · rename_i us hu
      split at h
      · rename_i vs O2 h2
        exact ⟨n, O1, us, vs, O2, h1, hu, h2, h⟩
      · cases h
    · cases h
  · cases h
theorem t_append : ∀ σ H Q, TEm K (mMeth appendM mo mx) σ H Q → tBM K "list" rAppend (TEm K mo) (TAm K mx) σ H Q := by
  rintro σ H Q ⟨m, Γ, O, w, O', f, s, e, k⟩
  obtain ⟨n, O1, us, vs, O2, h1, hu, h2, e⟩ := mMeth_some e
  unfold appendM at e
  split at e
  · rename_i v
    split at e
    · rename_i ws hn
      split at e
      · rename_i hz
        obtain ⟨rfl, rfl⟩ := Prod.mk.inj (Option.some.inj e)
        refine ⟨m, Γ, O, _, O1, f, s, h1, fun m1 H1 u x1 f1 r1 => ?_⟩
        cases r1 with
        | @ref _ p hp =>
          obtain ⟨xs, e1, _⟩ := f1.lstAt hp hu
          refine ⟨Or.inl ⟨rfl, xs, SqL.of e1⟩, m1, Γ, O1, _, O2, f1, s.ext x1, h2, fun m2 H2 u2 x2 f2 r2 => ?_⟩
          cases r2 with
          | cons r2 rr =>
            cases rr
            have hp2 := x2.at hp
            obtain ⟨ys, e2, rs⟩ := f2.lstAt hp2 hn
            have un : unl (H2 p) := by rw [e2]; trivial
            exact ⟨p, ys, _, rfl, rfl, e2, by rw [← rs.length]; exact hz, k m2 _ _ ((x1.trans x2).trans (Ext.write un (List.mem_of_getElem? hp2))) (f2.write (b := .lst (ws ++ [v])) hp2 un (rs.append (.cons r2 .nil))) .non⟩
      · cases e
    · cases e
  · cases e
theorem t_extend : ∀ σ H Q, TEm K (mMeth extendM mo mx) σ H Q → tBM K "list" (TB.rExtA K) (TEm K mo) (TAm K mx) σ H Q := by
  rintro σ H Q ⟨m, Γ, O, w, O', f, s, e, k⟩
  obtain ⟨n, O1, us, vs, O2, h1, hu, h2, e⟩ := mMeth_some e
  unfold extendM at e
  split at e
  · rename_i v
    split at e
    · rename_i ws zs hn hq
      split at e
      · rename_i hz
        obtain ⟨rfl, rfl⟩ := Prod.mk.inj (Option.some.inj e)
        refine ⟨m, Γ, O, _, O1, f, s, h1, fun m1 H1 u x1 f1 r1 => ?_⟩
        cases r1 with
        | @ref _ p hp =>
          obtain ⟨xs, e1, _⟩ := f1.lstAt hp hu
          refine ⟨Or.inl ⟨rfl, xs, SqL.of e1⟩, m1, Γ, O1, _, O2, f1, s.ext x1, h2, fun m2 H2 u2 x2 f2 r2 => ?_⟩
          cases r2 with
          | cons r2 rr =>
            cases rr
            have hp2 := x2.at hp
            obtain ⟨ys, e2, rs⟩ := f2.lstAt hp2 hn
            have un : unl (H2 p) := by rw [e2]; trivial
            obtain ⟨b, zz, rfl, hb, rb⟩ := rep_Q f2 hq r2
            exact ⟨p, b, ys, zz, rfl, rfl, e2, hb, by rw [← rs.length, ← rb.length]; exact hz, k m2 _ _ ((x1.trans x2).trans (Ext.write un (List.mem_of_getElem? hp2))) (f2.write (b := .lst (ws ++ zs)) hp2 un (rs.append rb)) .non⟩
      · cases e
    · cases e
  · cases e
theorem t_pop : ∀ σ H Q, TEm K (mMeth popM mo aNil) σ H Q → tBM0 K "list" rPop (TEm K mo) σ H Q := by
  rintro σ H Q ⟨m, Γ, O, w, O', f, s, e, k⟩
  obtain ⟨n, O1, us, vs, O2, h1, hu, h2, e⟩ := mMeth_some e
  cases h2
  unfold popM at e
  rw [hu] at e
  dsimp only at e
  cases hl : us.getLast? with
  | none => rw [hl] at e; cases e
  | some v =>
    rw [hl] at e
    obtain ⟨rfl, rfl⟩ := Prod.mk.inj (Option.some.inj e)
    refine ⟨m, Γ, O, _, O1, f, s, h1, fun m1 H1 u x1 f1 r1 => ?_⟩
    cases r1 with
    | @ref _ p hp =>
      obtain ⟨xs, e1, rs⟩ := f1.lstAt hp hu
      have un : unl (H1 p) := by rw [e1]; trivial
      have hg : us[us.length - 1]? = some v := by rw [← List.getLast?_eq_getElem?]; exact hl
      obtain ⟨y, e2, ry⟩ := rs.get hg
      have x2 : Ext m1 H1 m1 (upd H1 p (.lst xs.dropLast)) := Ext.write un (List.mem_of_getElem? hp)
      refine ⟨Or.inl ⟨rfl, xs, SqL.of e1⟩, p, xs, y, rfl, rfl, e1, by rw [← rs.length]; exact e2, k m1 _ _ (x1.trans x2) (f1.write (b := .lst us.dropLast) hp un rs.dropLast) (ry.ext x2)⟩
/-! len -/
def rLenV (K : PySem.W.Frag) : List V → Hp → VK → Prop := fun xs H Q => TB.rLenA K xs H Q ∨ ∃ p kvs, xs = [.ref p] ∧ Rd H p (.dK kvs) ∧ Q (.int kvs.length) H
theorem call_lenD {X : Cx} : CallR X (.builtin "len") (fun xs H Q => ∃ p kvs, xs = [.ref p] ∧ Rd H p (.dK kvs) ∧ Q (.int kvs.length) H) := by
  intro pins s σ H xs us Q I r h
  obtain ⟨p, kvs, rfl, hd, q⟩ := h
  obtain ⟨u, rfl, rx⟩ := vals1 r
  cases rx
  obtain ⟨z, hsys, vs, rel, dd⟩ := dk_rd I.hok hd
  have hl : kvs.length = vs.length := Paired.length rel
  refine call_len_dict hsys dd (by rw [← hl]; rw [sizeLine_eq] at z; omega) ?_
  exact ⟨.int kvs.length, H, I.tok _, ⟨s.toks + 1, by rw [hl]⟩, q⟩
theorem sem_len : Sem1 K lenV (rLenV K) := by
  intro m O H xs us w Q f r e k
  unfold lenV at e
  split at e
  · rename_i v
    cases r with
    | cons r rr =>
      cases rr
      split at e
      · rename_i vs hq
        cases e
        obtain ⟨a, ys, rfl, h, rs⟩ := rep_Q f hq r
        refine Or.inl (Or.inl ⟨a, ys, rfl, h, ?_⟩)
        rw [← rs.length]
        exact k m H _ (Ext.refl _ _) f (.int _)
      · split at e
        · split at e
          · rename_i hz
            cases e; cases r
            exact Or.inl (Or.inr ⟨_, rfl, hz, k m H _ (Ext.refl _ _) f (.int _)⟩)
          · cases e
        · split at e
          · rename_i kvs hd
            cases e
            obtain ⟨a, kv, rfl, h, rs⟩ := rep_D f hd r
            refine Or.inr ⟨a, kv, rfl, h, ?_⟩
            rw [← rs.length]
            exact k m H _ (Ext.refl _ _) f (.int _)
          · cases e
  · cases e
end
section
variable {X : Cx} {P : Program} {w : World} {K : PySem.W.Frag} {mg : Str → Option Value} {base : Heap} {N : List Str} {sc : Scope} {lv : Nat} {a b o e : Expr} {es : List Expr} {ma mb mo me : Ex} {mx mk : Ax} {p p1 p2 pos apos cpos : Pos}
theorem d_append (C : Ctx X P w K mg base N sc lv) (ho : PE X o (TEm K mo)) (ha : PA X (e :: es) (TAm K mx)) (hbase : attributeBase o "append" X.env (eval o X.env) = eval o X.env := by rfl)
    (hfew : ((backTo cpos (starEach (e :: es) X.env)).all (fun x => !x.1) && (backToKw cpos (keywordEach [] X.env)).all (fun x => x.1.isSome) && decide ((e :: es).length + ([] : List Keyword).length + (if ([] : List Keyword).isEmpty then 0 else 1) < 30)) = true := by rfl) (hline : (apos.endLine == cpos.line) = true := by rfl)
    (hs : starEach (e :: es) X.env = (false, eval e X.env) :: starEach es X.env := by rfl) (hp : (backTo cpos (starEach es X.env)).any (·.1) = false := by rfl) : PE X (.Call (.Attribute o "append" apos) (e :: es) [] cpos) (TEm K (mMeth appendM mo mx)) :=
  (TB.q_append C ho ha hbase hfew hline hs hp).weak t_append
theorem d_extend (C : Ctx X P w K mg base N sc lv) (ho : PE X o (TEm K mo)) (ha : PA X (e :: es) (TAm K mx)) (hbase : attributeBase o "extend" X.env (eval o X.env) = eval o X.env := by rfl)
    (hfew : ((backTo cpos (starEach (e :: es) X.env)).all (fun x => !x.1) && (backToKw cpos (keywordEach [] X.env)).all (fun x => x.1.isSome) && decide ((e :: es).length + ([] : List Keyword).length + (if ([] : List Keyword).isEmpty then 0 else 1) < 30)) = true := by rfl) (hline : (apos.endLine == cpos.line) = true := by rfl)
    (hs : starEach (e :: es) X.env = (false, eval e X.env) :: starEach es X.env := by rfl) (hp : (backTo cpos (starEach es X.env)).any (·.1) = false := by rfl) : PE X (.Call (.Attribute o "extend" apos) (e :: es) [] cpos) (TEm K (mMeth extendM mo mx)) :=
  (TB.q_extend C ho ha hbase hfew hline hs hp).weak t_extend
theorem d_pop (C : Ctx X P w K mg base N sc lv) (ho : PE X o (TEm K mo)) (hbase : attributeBase o "pop" X.env (eval o X.env) = eval o X.env := by rfl) (hline : (apos.endLine == cpos.line) = true := by rfl) : PE X (.Call (.Attribute o "pop" apos) [] [] cpos) (TEm K (mMeth popM mo aNil)) :=
  (TB.q_pop C ho hbase hline).weak t_pop
theorem d_len (C : Ctx X P w K mg base N sc lv) (hm : mg "len" = none) (ha : PA X [e] (TAm K mx)) (hg : GK sc "len" := by rfl) (h1 : starEach [e] X.env = (false, eval e X.env) :: starEach [] X.env := by rfl) (h2 : (backTo pos (starEach [] X.env)).any (·.1) = false := by rfl) : PE X (.Call (.Name "len" p) [e] [] pos) (TEm K (mCB lenV mx)) := by
  have := C.hK; subst this
  exact (pe_callB ((call_len_seq.or call_len_str).or call_lenD) (C.gl hg) (by rw [C.hmg]; exact hm) PySem.boot_len ha (by decide) (by decide) h1 h2).weak (t_cb sem_len)
theorem d_isi (C : Ctx X P w K mg base N sc lv) (hm : mg "isinstance" = none) {x : Str} {T : String} (ha : PE X a (TEm K ma)) (hx : mg x = none) (hv : bootBuiltins x = some (.type T)) (hg : GK sc "isinstance" := by rfl) (hgx : GK sc x := by rfl) (hn : x ≠ "__name__" := by decide) (hd : (x == ("__debug__" : Str)) = false := by decide)
    (h0 : starEach [a, .Name x p1] X.env = (false, eval a X.env) :: starEach [.Name x p1] X.env := by rfl) (h3 : starEach [.Name x p1] X.env = (false, eval (.Name x p1) X.env) :: starEach [] X.env := by rfl) (h2 : (backTo pos (starEach [.Name x p1] X.env)).any (·.1) = false := by rfl) : PE X (.Call (.Name "isinstance" p) [a, .Name x p1] [] pos) (TEm K (mUn (isiV T) ma)) :=
  (TB.q_isi C hm (pa_cons ha (pa_cons (TB.q_ty C hx hv hgx hn hd) pa_nil h3) h0) hg h0 h2).weak t_isi
theorem d_isi2 (C : Ctx X P w K mg base N sc lv) (hm : mg "isinstance" = none) {x y : Str} {T U : String} {x1 : Nat} {q1 q2 : Pos} (ha : PE X a (TEm K ma)) (hx : mg x = none) (hv : bootBuiltins x = some (.type T)) (hy : mg y = none) (hw : bootBuiltins y = some (.type U)) (hg : GK sc "isinstance" := by rfl) (hgx : GK sc x := by rfl) (hn : x ≠ "__name__" := by decide) (hd : (x == ("__debug__" : Str)) = false := by decide)
    (hgy : GK sc y := by rfl) (hn' : y ≠ "__name__" := by decide) (hd' : (y == ("__debug__" : Str)) = false := by decide)
    (h0 : starEach [a, .Tuple [.Name x q1, .Name y q2] x1 p1] X.env = (false, eval a X.env) :: starEach [.Tuple [.Name x q1, .Name y q2] x1 p1] X.env := by rfl) (h3 : starEach [.Tuple [.Name x q1, .Name y q2] x1 p1] X.env = (false, eval (.Tuple [.Name x q1, .Name y q2] x1 p1) X.env) :: starEach [] X.env := by rfl)
    (h5 : starEach [.Name x q1, .Name y q2] X.env = (false, eval (.Name x q1) X.env) :: starEach [.Name y q2] X.env := by rfl) (h6 : starEach [.Name y q2] X.env = (false, eval (.Name y q2) X.env) :: starEach [] X.env := by rfl)
    (h2 : (backTo pos (starEach [.Tuple [.Name x q1, .Name y q2] x1 p1] X.env)).any (·.1) = false := by rfl) : PE X (.Call (.Name "isinstance" p) [a, .Tuple [.Name x q1, .Name y q2] x1 p1] [] pos) (TEm K (mUn (isi2V T U) ma)) :=
  (TB.q_isi C hm (pa_cons ha (pa_cons (pe_tup (pa_cons (TB.q_ty C hx hv hgx hn hd) (pa_cons (TB.q_ty C hy hw hgy hn' hd') pa_nil h6) h5)) pa_nil h3) h0) hg h0 h2).weak t_isi2
theorem d_all (C : Ctx X P w K mg base N sc lv) (hm : mg "all" = none) (ha : PA X [e] (TAm K mx)) (hg : GK sc "all" := by rfl) (h1 : starEach [e] X.env = (false, eval e X.env) :: starEach [] X.env := by rfl) (h2 : (backTo pos (starEach [] X.env)).any (·.1) = false := by rfl) : PE X (.Call (.Name "all" p) [e] [] pos) (TEm K (mCB allV mx)) := (TB.q_all C hm ha hg h1 h2).weak (t_cb sem_all)
theorem d_any (C : Ctx X P w K mg base N sc lv) (hm : mg "any" = none) (ha : PA X [e] (TAm K mx)) (hg : GK sc "any" := by rfl) (h1 : starEach [e] X.env = (false, eval e X.env) :: starEach [] X.env := by rfl) (h2 : (backTo pos (starEach [] X.env)).any (·.1) = false := by rfl) : PE X (.Call (.Name "any" p) [e] [] pos) (TEm K (mCB anyV mx)) := (TB.q_any C hm ha hg h1 h2).weak (t_cb sem_any)
theorem d_tuple (C : Ctx X P w K mg base N sc lv) (hm : mg "tuple" = none) (ha : PA X [e] (TAm K mx)) (hg : GK sc "tuple" := by rfl) (h1 : starEach [e] X.env = (false, eval e X.env) :: starEach [] X.env := by rfl) (h2 : (backTo pos (starEach [] X.env)).any (·.1) = false := by rfl) : PE X (.Call (.Name "tuple" p) [e] [] pos) (TEm K (mCB tupleV mx)) := (TB.q_tuple C hm ha hg h1 h2).weak (t_cb sem_tuple)
theorem d_listF (C : Ctx X P w K mg base N sc lv) (hm : mg "list" = none) (ha : PA X [e] (TAm K mx)) (hg : GK sc "list" := by rfl) (h1 : starEach [e] X.env = (false, eval e X.env) :: starEach [] X.env := by rfl) (h2 : (backTo pos (starEach [] X.env)).any (·.1) = false := by rfl) : PE X (.Call (.Name "list" p) [e] [] pos) (TFm K (mCB listV mx)) := (TB.q_list C hm ha hg h1 h2).weak (t_cbF sem_list)
/-! {} -/
def mDnew : Ex := fun _ O => some (.dct [], O)
theorem d_dnewF : PE X (.Dict [] [] pos) (TFm K mDnew) := pe_dnewK.weak fun σ H Q ⟨m, Γ, O, r, O', f, s, e, k⟩ p np => by
  cases e
  obtain ⟨h1, h2, h3⟩ := Raw.newD (vs := []) f np .nil
  exact k m _ _ h1 h2 h3
/-! walks -/
variable {tg iter tpos : Expr}
theorem i_it (C : Ctx X P w K mg base N sc lv) (h : PE X e (TEm K me)) : PI X tg e (TIm K false (mIt me)) := ((TB.q_iSeq C h).or ((pi_str h).or (pi_keys h))).weak t_it
theorem i_rng1 (C : Ctx X P w K mg base N sc lv) (hm : mg "range" = none) (ha : PA X [a] (TAm K mx)) (hg : GK sc "range" := by rfl) (hs : starEach [a] X.env = [(false, eval a X.env)] := by rfl) : PI X tg (.Call (.Name "range" p) [a] [] pos) (TIm K false (xArg range1F mx)) := (TB.q_rng1 C hm ha hg hs).weak t_rng1
variable {elts : List Expr} {kk : Nat} {tp : Pos}
theorem i_enum (C : Ctx X P w K mg base N sc lv) (hm : mg "enumerate" = none) (ha : PA X [e] (TAm K mx)) (hg : GK sc "enumerate" := by rfl) (hs : starEach [e] X.env = [(false, eval e X.env)] := by rfl) (hp : (backTo pos (starEach [] X.env)).any (·.1) = false := by rfl) : PI X (.Tuple elts kk tp) (.Call (.Name "enumerate" p) [e] [] pos) (TIm K true (xArg enumF mx)) := (TB.q_enum C hm ha hg hs hp).weak t_enum
theorem i_zip (C : Ctx X P w K mg base N sc lv) (hm : mg "zip" = none) (ha : PA X [a, b] (TAm K mx)) (hg : GK sc "zip" := by rfl) (hs : starEach [a, b] X.env = (false, eval a X.env) :: starEach [b] X.env := by rfl) (hpl : (backTo pos (starEach [b] X.env)).any (·.1) = false := by rfl) : PI X (.Tuple elts kk tp) (.Call (.Name "zip" p) [a, b] [] pos) (TIm K true (xArg zipF mx)) := (TB.q_zip C hm ha hg hs hpl).weak t_zip
/-! targets -/
structure DG (X : Cx) (K : PySem.W.Frag) (pr : Bool) (vs : List Nat) (tg : Expr) (mg : Tg) : Prop where
  ex : ∃ g, PG X tg g ∧ GOk K pr vs g mg
structure DGs (X : Cx) (K : PySem.W.Frag) (vs : List Nat) (n : Nat) (tgs : List Expr) (mg : Tgs) : Prop where
  ex : ∃ g, PGs X tgs g ∧ GsOk K vs g mg ∧ ∀ x Γ Γ', mg x Γ = some Γ' → x.length = n
theorem g_name (C : FCtx X P w K mg base N sc lv) {vs : List Nat} (i : Nat) {x : Str} (hv : i ∈ vs := by decide) (hi : N[i]? = some x := by rfl) (hx : Loc sc x := by first | exact Or.inl rfl | exact Or.inr rfl) : DG X K false vs (.Name x pos) (gN i) := ⟨_, TB.q_name C i hi hx, gok_name hv⟩
theorem g_nil {vs : List Nat} : DGs X K vs 0 [] gNl := ⟨_, pgs_nil, gsok_nil, fun x Γ Γ' h => by
  unfold gNl at h
  split at h
  · rfl
  · cases h⟩
theorem g_cons {vs : List Nat} {n : Nat} {t : Expr} {ts : List Expr} {mt : Tg} {mts : Tgs} (h : DG X K false vs t mt) (hs : DGs X K vs n ts mts) (h1 : (assignEach (t :: ts) X.env).map (·.2) = assign t X.env :: (assignEach ts X.env).map (·.2) := by rfl) : DGs X K vs (n + 1) (t :: ts) (gCs mt mts) := by
  obtain ⟨g, h2, h3⟩ := h
  obtain ⟨gs, h4, h5, h6⟩ := hs
  refine ⟨_, pgs_cons h2 h4 h1, gsok_cons h3 h5, fun x Γ Γ' e => ?_⟩
  unfold gCs at e
  split at e
  · split at e
    · have := h6 _ _ _ e
      simp [this]
    · cases e
  · cases e
theorem g_tup (C : Ctx X P w K mg base N sc lv) {vs : List Nat} {n k : Nat} {ts : List Expr} {mts : Tgs} (h : DGs X K vs n ts mts) (hn : (assignEach ts X.env).length = n := by rfl) (hst : (assignEach ts X.env).findIdx? (·.1) = none := by rfl) : DG X K true vs (.Tuple ts k pos) (gT mts) := by
  obtain ⟨g, h1, h2, h3⟩ := h
  exact ⟨_, TB.q_seq C h1 hn hst, gok_tup h2 h3⟩
theorem DG.pl {vs : List Nat} {t : Expr} {mt : Tg} (h : DG X K true vs t mt) : DG X K false vs t mt := let ⟨g, h1, h2⟩ := h; ⟨g, h1, h2.plain⟩
/-! statements -/
variable {st : Stmt} {sts body body2 : List Stmt} {ms mss : Sm} {mt mc : Tx} {c : Expr} {mtg : Tg} {vs : List Nat}
theorem s_nil : PSs X [] (TSm K sNext) := pss_nil.weak t_next
theorem s_cons (h1 : PS X st (TSm K ms)) (h2 : PSs X sts (TSm K mss)) : PSs X (st :: sts) (TSm K (sSeq ms mss)) := (pss_cons h1 h2).weak t_seq
theorem s_one (h1 : PS X st (TSm K ms)) : PSs X [st] (TSm K ms) := pss_one h1
theorem s_never : PS X st (TSm K sNever) := ps_never.weak t_never
theorem s_expr (he : PE X e (TEm K me)) (hs : swapsWith e none pos.line X.env = pure false := by rfl) : PS X (.Expr e pos) (TSm K (sDrop me)) := (ps_expr he hs).weak t_drop
theorem s_ret (he : PE X e (TEm K me)) : PS X (.Return (some e) pos) (TSm K (sRet me)) := (ps_ret he).weak t_ret
theorem s_if (hc : PT X c (TTm K mc)) (ha : PSs X body (TSm K ms)) (hb : PSs X body2 (TSm K mss)) : PS X (.If c body body2 pos) (TSm K (sIf mc ms mss)) := (ps_if hc ha hb).weak t_ifS
theorem s_set (C : FCtx X P w K mg base N sc lv) (i : Nat) {x : Str} {pos' : Pos} (he : PE X e (TEm K me)) (hi : N[i]? = some x := by rfl) (hx : Loc sc x := by first | exact Or.inl rfl | exact Or.inr rfl) (hs : swapsWith e (some (.Name x pos')) pos.line X.env = pure false := by rfl) :
    PS X (.Assign [.Name x pos'] e pos) (TSm K (sAsg me (gN i))) := (TB.q_set C i he hi hx hs).weak (t_asg (vs := [i]) (gok_name (by simp)))
theorem s_asgT (C : Ctx X P w K mg base N sc lv) {ts us : List Expr} {k k2 : Nat} {p p2 : Pos} (he : PE X (.Tuple us k2 p2) (TEm K me)) (hg : DG X K false vs (.Tuple ts k p) mtg) (hk : sc.kind = .function := by rfl) (hc : us.all (foldedForSure 8) = true ∨ us.all (constantsAlone 8) = false := by first | exact Or.inr rfl | exact Or.inl rfl)
    (hw : TB.swapD sc ts us = none := by decide +kernel) (hs : swapsWithSole [.Tuple ts k p] (.Tuple us k2 p2) pos.line X.env = pure false := by rfl) (h1 : (assignEach [.Tuple ts k p] X.env).map (·.2) = [assign (.Tuple ts k p) X.env] := by rfl) :
    PS X (.Assign [.Tuple ts k p] (.Tuple us k2 p2) pos) (TSm K (sAsg me mtg)) := by
  obtain ⟨g, h2, h3⟩ := hg
  exact (TB.q_asgT C he h2 hk hc hw hs h1).weak (t_asg h3)
theorem s_par (C : Ctx X P w K mg base N sc lv) (i j : Nat) {x y : Str} {px py pt : Pos} {kt k2 : Nat} {pt2 : Pos} (ha : PA X [a, b] (TAm K mx)) (hi : N[i]? = some x := by rfl) (hj : N[j]? = some y := by rfl) (hij : i ≠ j := by decide)
    (hx : sc.names.lookup x = some .local := by rfl) (hy : sc.names.lookup y = some .local := by rfl) (hk : sc.kind = .function := by rfl) (hc : [a, b].all (constantsAlone 8) = false := by rfl) (hw : TB.swapD sc [.Name x px, .Name y py] [a, b] = some [x, y] := by decide +kernel)
    (hs : swapsWithSole [.Tuple [.Name x px, .Name y py] kt pt] (.Tuple [a, b] k2 pt2) pos.line X.env = pure false := by rfl) :
    PS X (.Assign [.Tuple [.Name x px, .Name y py] kt pt] (.Tuple [a, b] k2 pt2) pos) (TSm K (sPar i j mx)) := (TB.q_par C i j ha hi hj hij hx hy hk hc hw hs).weak t_par
theorem s_par3 (C : Ctx X P w K mg base N sc lv) (i j l : Nat) {x y z : Str} {c : Expr} {px py pz pt : Pos} {kt k2 : Nat} {pt2 : Pos} (ha : PA X [a, b, c] (TAm K mx)) (hi : N[i]? = some x := by rfl) (hj : N[j]? = some y := by rfl) (hl : N[l]? = some z := by rfl) (hij : i ≠ j := by decide) (hil : i ≠ l := by decide) (hjl : j ≠ l := by decide)
    (hx : sc.names.lookup x = some .local := by rfl) (hy : sc.names.lookup y = some .local := by rfl) (hz : sc.names.lookup z = some .local := by rfl) (hk : sc.kind = .function := by rfl) (hc : [a, b, c].all (constantsAlone 8) = false := by rfl) (hw : TB.swapD sc [.Name x px, .Name y py, .Name z pz] [a, b, c] = some [x, y, z] := by decide +kernel)
    (hs : swapsWithSole [.Tuple [.Name x px, .Name y py, .Name z pz] kt pt] (.Tuple [a, b, c] k2 pt2) pos.line X.env = pure false := by rfl) :
    PS X (.Assign [.Tuple [.Name x px, .Name y py, .Name z pz] kt pt] (.Tuple [a, b, c] k2 pt2) pos) (TSm K (sPar3 i j l mx)) := (TB.q_par3 C i j l ha hi hj hl hij hil hjl hx hy hz hk hc hw hs).weak t_par3
theorem s_setI (C : Ctx X P w K mg base N sc lv) {i value : Expr} {pos' : Pos} {mi mv : Ex} (ho : PE X o (TEm K mo)) (hi : PE X i (TEm K mi)) (hv : PE X value (TEm K mv)) (hs : swapsWith value (some (.Subscript o i pos')) pos.line X.env = pure false := by rfl)
    (hA : ∀ v, assign (.Subscript o i pos') X.env v = (do let ov ← holding [v] (eval o X.env); let iv ← holding [v, ov] (eval i X.env); standAt pos'; holding [v, ov, iv] (setItem ov iv v); release [v, ov, iv] []) := by intro _; rfl) (hS : swapsWithSole [.Subscript o i pos'] value pos.line X.env = pure false := by rfl) : PS X (.Assign [.Subscript o i pos'] value pos) (TSm K (sSetI mo mi mv)) :=
  (TB.q_setI C ho hi hv hs hA hS).weak t_setI
theorem s_for (C : Ctx X P w K mg base N sc lv) {pr : Bool} (hi : PI X tg iter (TIm K pr mx)) (hg : DG X K pr vs tg mtg) (hb : PSs X body (TSm K ms)) (hs : ∀ x, foldedSetIterable iter X.env x = pure x := by intro _; rfl) : PS X (.For tg iter body [] pos) (TSm K (sFor mx mtg ms)) := by
  obtain ⟨g, h2, h3⟩ := hg
  exact (TB.q_for C hi h2 hb hs).weak (t_for h3)
theorem s_while (C : Ctx X P w K mg base N sc lv) (hc : PT X c (TTm K mc)) (hb : PSs X body (TSm K ms)) : PS X (.While c body [] pos) (TSm K (sWhile mc ms)) := (TB.q_while C hc hb).weak t_while
/-! comprehensions -/
variable {elt kx : Expr} {ifs : List Expr} {scope : Scope} {mke : Ex} {tg1 iter1 : Expr} {ifs1 : List Expr} {mx1 : Ax} {mt1 : Tx} {mtg1 : Tg} {vs1 : List Nat}
theorem _root_.L2.PTs.weak {X : Cx} {e : List Expr} {t t' : TT} (h : PTs X e t) (k : ∀ σ H Q, t' σ H Q → t σ H Q) : PTs X e t' := ⟨fun pins s σ H Q I w => h.run pins s σ H Q I (k σ H Q w)⟩
theorem c_nil : PTs X [] (TTm K tYs) := pts_nil.weak t_yes
theorem c_one (h : PT X c (TTm K mt)) : PTs X [c] (TTm K mt) := pts_one h
/-- the target by one g, whatever the block -/
structure DGc (P : Program) (w : World) (K : PySem.W.Frag) (mg : Str → Option Value) (base : Heap) (N : List Str) (sc : Scope) (lv : Nat) (pr : Bool) (vs : List Nat) (tg : Expr) (mtg : Tg) : Prop where
  ex : ∃ g, (∀ X', Ctx X' P w K mg base N sc lv → PG X' tg g) ∧ GOk K pr vs g mtg
structure DGcs (P : Program) (w : World) (K : PySem.W.Frag) (mg : Str → Option Value) (base : Heap) (N : List Str) (sc : Scope) (lv : Nat) (vs : List Nat) (n : Nat) (tgs : List Expr) (mtg : Tgs) : Prop where
  ex : ∃ g, (∀ X', Ctx X' P w K mg base N sc lv → PGs X' tgs g) ∧ GsOk K vs g mtg ∧ ∀ x Γ Γ', mtg x Γ = some Γ' → x.length = n
theorem gc_name {vs : List Nat} (i : Nat) {x : Str} (hv : i ∈ vs := by decide) (hi : N[i]? = some x := by rfl) (hx : sc.names.lookup x = some .local := by rfl) : DGc P w K mg base N sc lv false vs (.Name x pos) (gN i) := ⟨_, fun X' C => TB.q_nameC C i hi hx, gok_name hv⟩
theorem gc_nil {vs : List Nat} : DGcs P w K mg base N sc lv vs 0 [] gNl := ⟨_, fun _ _ => pgs_nil, gsok_nil, fun x Γ Γ' h => by
  unfold gNl at h
  split at h
  · rfl
  · cases h⟩
theorem gc_cons {vs : List Nat} {n : Nat} {t : Expr} {ts : List Expr} {mt : Tg} {mts : Tgs} (h : DGc P w K mg base N sc lv false vs t mt) (hs : DGcs P w K mg base N sc lv vs n ts mts) (h1 : ∀ env, (assignEach (t :: ts) env).map (·.2) = assign t env :: (assignEach ts env).map (·.2) := by intro _; rfl) : DGcs P w K mg base N sc lv vs (n + 1) (t :: ts) (gCs mt mts) := by
  obtain ⟨g, h2, h3⟩ := h
  obtain ⟨gs, h4, h5, h6⟩ := hs
  refine ⟨_, fun X' C => pgs_cons (h2 X' C) (h4 X' C) (h1 _), gsok_cons h3 h5, fun x Γ Γ' e => ?_⟩
  unfold gCs at e
  split at e
  · split at e
    · have := h6 _ _ _ e
      simp [this]
    · cases e
  · cases e
theorem gc_tup {vs : List Nat} {n k : Nat} {ts : List Expr} {mts : Tgs} (h : DGcs P w K mg base N sc lv vs n ts mts) (hn : ∀ env, (assignEach ts env).length = n := by intro _; rfl) (hst : ∀ env, (assignEach ts env).findIdx? (·.1) = none := by intro _; rfl) : DGc P w K mg base N sc lv true vs (.Tuple ts k pos) (gT mts) := by
  obtain ⟨g, h1, h2, h3⟩ := h
  exact ⟨_, fun X' C => TB.q_seq C (h1 X' C) (hn _) (hst _), gok_tup h2 h3⟩
theorem DGc.pl {vs : List Nat} {t : Expr} {mt : Tg} (h : DGc P w K mg base N sc lv true vs t mt) : DGc P w K mg base N sc lv false vs t mt := let ⟨g, h1, h2⟩ := h; ⟨g, h1, h2.plain⟩
theorem d_lcF (C : Ctx X P w K mg base N sc lv) (own : List (Str × Nat)) {pr : Bool} (hi : PI X tg iter (TIm K pr mx)) (hg : DGc P w K mg base N (relS scope sc) lv pr vs tg mtg) (ht : ∀ X', Ctx X' P w K mg base N (relS scope sc) lv → PTs X' ifs (TTm K mt))
    (he : ∀ X', Ctx X' P w K mg base N (relS scope sc) lv → PE X' elt (TEm K me)) (ok : blkC N sc scope own = true := by decide +kernel) (hv : own.map (·.2) = vs := by rfl) (hs : ∀ x, foldedSetIterable iter X.env x = pure x := by intro _; rfl) :
    PE X (.ListComp elt [⟨tg, iter, ifs, 0⟩] scope pos) (TFm K (mLc vs mx mtg mt me)) := by
  obtain ⟨g, h2, h3⟩ := hg
  exact (TB.q_lc C own hi h2 ht he ok hv hs).weak (t_lc h3)
theorem d_dcF (C : Ctx X P w K mg base N sc lv) (own : List (Str × Nat)) {pr : Bool} (hi : PI X tg iter (TIm K pr mx)) (hg : DGc P w K mg base N (relS scope sc) lv pr vs tg mtg) (ht : ∀ X', Ctx X' P w K mg base N (relS scope sc) lv → PTs X' ifs (TTm K mt))
    (hk : ∀ X', Ctx X' P w K mg base N (relS scope sc) lv → PE X' kx (TEm K mke)) (he : ∀ X', Ctx X' P w K mg base N (relS scope sc) lv → PE X' elt (TEm K me)) (ok : blkC N sc scope own = true := by decide +kernel) (hv : own.map (·.2) = vs := by rfl) (hs : ∀ x, foldedSetIterable iter X.env x = pure x := by intro _; rfl) :
    PE X (.DictComp kx elt [⟨tg, iter, ifs, 0⟩] scope pos) (TFm K (mDc vs mx mtg mt mke me)) := by
  obtain ⟨g, h2, h3⟩ := hg
  exact (TB.q_dc C own hi h2 ht hk he ok hv hs).weak (t_dc h3)
theorem d_lc2F (C : Ctx X P w K mg base N sc lv) (own : List (Str × Nat)) {pr pr1 : Bool} (hi : PI X tg iter (TIm K pr mx)) (hg : DGc P w K mg base N (relS scope sc) lv pr vs tg mtg) (ht : ∀ X', Ctx X' P w K mg base N (relS scope sc) lv → PTs X' ifs (TTm K mt))
    (hi1 : ∀ X', Ctx X' P w K mg base N (relS scope sc) lv → PI X' tg1 iter1 (TIm K pr1 mx1)) (hg1 : DGc P w K mg base N (relS scope sc) lv pr1 vs1 tg1 mtg1) (ht1 : ∀ X', Ctx X' P w K mg base N (relS scope sc) lv → PTs X' ifs1 (TTm K mt1)) (he : ∀ X', Ctx X' P w K mg base N (relS scope sc) lv → PE X' elt (TEm K me))
    (ok : blkC N sc scope own = true := by decide +kernel) (hv : own.map (·.2) = vs := by rfl) (hv1 : ∀ i ∈ vs1, i ∈ vs := by decide) (hs : ∀ x, foldedSetIterable iter X.env x = pure x := by intro _; rfl) (hs1 : ∀ env x, foldedSetIterable iter1 env x = pure x := by intro _ _; rfl) :
    PE X (.ListComp elt [⟨tg, iter, ifs, 0⟩, ⟨tg1, iter1, ifs1, 0⟩] scope pos) (TFm K (mLc2 vs vs1 mx mtg mt mx1 mtg1 mt1 me)) := by
  obtain ⟨g, h2, h3⟩ := hg
  obtain ⟨g1, h4, h5⟩ := hg1
  exact (TB.q_lc2 C own vs1 hi h2 ht hi1 h4 ht1 he ok hv hv1 hs hs1).weak (t_lc2 h3 h5)
/-- x = [..] on one row: what is new is locked, or followed -/
theorem s_lk {i : Nat} (h : PS X st (tAsg (TFm K me) (gName i))) : PS X st (TSm K (sAsg me (gN i))) := by
  refine ⟨fun pins s σ H D I w => ?_⟩
  obtain ⟨m, Γ, O, r, O', f, sl, ev, k⟩ := w
  unfold sAsg at ev
  split at ev
  · rename_i v O1 h1
    simp only [gN] at ev
    obtain ⟨rfl, rfl⟩ := Prod.mk.inj (Option.some.inj ev)
    refine thn (h.run pins s σ H ⟨fun σ' H' => ∃ m' u, Ext m H m' H' ∧ Fit K m' O1 H' ∧ Raw K H m' H' v u ∧ SFit K m' H' Γ σ ∧ σ' = σ.set i (some u), fun _ _ => False, fun _ _ => False, fun _ _ => False⟩ I ⟨m, Γ, O, v, O1, f, sl, h1, fun m' H' u a b c => ⟨m', u, a, b, c, sl.ext a, rfl⟩⟩) fun fl s' q => ?_
    match fl, q with
    | .next, ⟨σ', H', I', m', u, x, f', c, s', e⟩ =>
      subst e
      cases c with
      | @lst p xs vs hp h0 n rs =>
        obtain ⟨od, I2⟩ := I'.lock hp trivial
        have un : unl (H' p) := by rw [hp]; trivial
        exact ⟨_, _, I2, k m' _ _ (x.putAt h0 un) (f'.put un n) ((s'.mono (Kp.put un)).set i (.lst (Or.inl ⟨_, upd_same⟩) (rs.mono (Kp.put un))))⟩
      | @dct p xs vs hp h0 n rs =>
        obtain ⟨od, I2⟩ := I'.lock hp trivial
        have un : unl (H' p) := by rw [hp]; trivial
        exact ⟨_, _, I2, k m' _ _ (x.putAt h0 un) (f'.put un n) ((s'.mono (Kp.put un)).set i (.dct upd_same (rs.mono (Kp.put un))))⟩
    | .brk, ⟨_, _, _, z⟩ => exact z.elim
    | .cont, ⟨_, _, _, z⟩ => exact z.elim
    | .ret _, ⟨_, _, _, _, _, z⟩ => exact z.elim
  · cases ev
theorem s_lc0 (C : FCtx X P w K mg base N sc lv) (i : Nat) (own : List (Str × Nat)) {pr : Bool} {y : Str} {py spos : Pos} (hi : PI X tg iter (TIm K pr mx)) (hg : DGc P w K mg base N (relS scope sc) lv pr vs tg mtg) (ht : ∀ X', Ctx X' P w K mg base N (relS scope sc) lv → PTs X' ifs (TTm K mt))
    (he : ∀ X', Ctx X' P w K mg base N (relS scope sc) lv → PE X' elt (TEm K me)) (hy : N[i]? = some y := by rfl) (hyl : sc.names.lookup y = some .local := by rfl) (hk : sc.kind = .function := by rfl) (hl : (py.line == pos.line) = true := by rfl) (ha : (scope.names.any fun (n, k) => n == y && (k == .local || k == .cell)) = false := by decide +kernel)
    (ok : blkC N sc scope own = true := by decide +kernel) (hv : own.map (·.2) = vs := by rfl) (hs : ∀ x, foldedSetIterable iter X.env x = pure x := by intro _; rfl) :
    PS X (.Assign [.Name y py] (.ListComp elt [⟨tg, iter, ifs, 0⟩] scope pos) spos) (tAsg (TFm K (mLc vs mx mtg mt me)) (gName i)) := by
  obtain ⟨g, h2, h3⟩ := hg
  exact (TB.q_setLc C i own hi h2 ht he hy hyl hk hl ha ok hv hs).weak fun D σ H h => t_lc h3 σ H _ h
/-! keywords -/
theorem k_nil : PK X [] (TAm K aNil) := pk_nil.weak t_nil
theorem k_cons {kws : List Keyword} {nm : Option Str} {kpos : Pos} (ha : PE X e (TEm K me)) (hr : PK X kws (TAm K mk)) : PK X (⟨nm, e, kpos⟩ :: kws) (TAm K (aCons me mk)) := (pk_cons ha hr).weak t_cons
end
/-! ### the text's defs -/
section
variable {P : Program} {w : World} {K : PySem.W.Frag} {mg : Str → Option Value} {base : Heap}
/-- the def st stands under its name, its keyword-only parameters' defaults are dk -/
def TopV (K : PySem.W.Frag) (mg : Str → Option Value) (x : Str) (st : Stmt) (dk : List (Str × Va)) : Prop := ∃ kws : List (Str × V), TopF K mg x st [] kws ∧ kws.map (·.1) = dk.map (·.1) ∧ ∀ m H, Reps K m H (dk.map (·.2)) (kws.map (·.2))
theorem TopV.of0 {x : Str} {st : Stmt} (h : TopF K mg x st [] []) : TopV K mg x st [] := ⟨[], h, rfl, fun _ _ => .nil⟩
end
end TV
end
-- V9
section
set_option Elab.async false
set_option linter.all false
set_option maxRecDepth 100000
set_option maxHeartbeats 2000000
/-! V9: how the text's defs are called; the law's end. -/
namespace TV
open PySem L2
open TB (Def DefN FnG FunS TopF)
section
variable {P : Program} {w : World} {K : PySem.W.Frag} {mg : Str → Option Value} {base : Heap} {x : Str} {st : Stmt} {dk : List (Str × Va)} {N ps : List Str} {lv n : Nat} {F : Fn}
/-- no defaults -/
theorem TopV.use (T : TopV K mg x st dk) (ok : ∀ kws f fd, FunS K x st [] kws f fd → FnG P w K mg base CX0 lv f fd ps (spF K F))
    (hb : ∀ (kV doc pm : Value) (an : Option Addr) (cdv ct : Value) (us : List Value), us.length = ps.length → bindArgs (PySem.W.fnOf x x (defArgs st) (defBody st) (defScope st) .none kV doc pm an cdv ct) ⟨us, []⟩ = pure (ps.zip us)) : DefV P w K mg base lv x F [] := by
  obtain ⟨kws, T, _⟩ := T
  exact ⟨0, [], fun _ _ => .nil, T.use (ok kws) hb⟩
/-- some keyword-only parameters left out: those at mi -/
theorem TopV.useK (T : TopV K mg x st dk) (ok : ∀ kws f fd, FunS K x st [] kws f fd → FnG P w K mg base CX0 lv f fd ps (spF K F)) (ks : List Str) (mi : List Nat) (g : {α : Type} → List α → List α → List α → List α) (hk : dk ≠ [])
    (hrel : ∀ {vs mz zs : List V} {us mv ws : List Value}, Vals vs us → Vals mz mv → Vals zs ws → Vals (g vs mz zs) (g us mv ws)) (hrep : ∀ {m : List Addr} {H : Hp} {vs mz zs : List Va} {us mv ws : List V}, Reps K m H vs us → Reps K m H mz mv → Reps K m H zs ws → Reps K m H (g vs mz zs) (g us mv ws))
    (hb : ∀ (D : Addr) (doc pm : Value) (an : Option Addr) (cdv ct : Value) (us mv ws : List Value), us.length = n → mv.length = (mi.filterMap fun i => dk[i]?).length → ws.length = ks.length →
      KwChain D (((mi.filterMap fun i => dk[i]?).map (·.1)).zip mv) (bindArgs (PySem.W.fnOf x x (defArgs st) (defBody st) (defScope st) .none (.ref D) doc pm an cdv ct) ⟨us, ks.zip ws⟩) (ps.zip (g us mv ws))) : DefVN P w K mg base lv x n ks (fun vs zs => g vs ((mi.filterMap fun i => dk[i]?).map (·.2)) zs) F := by
  obtain ⟨kws, T, e, r⟩ := T
  have hl : kws.length = dk.length := by have := congrArg List.length e; simpa using this
  have names : ∀ i : Nat, (kws[i]?).map (fun q : Str × V => q.1) = (dk[i]?).map (fun q : Str × Va => q.1) := fun i => by rw [← List.getElem?_map, ← List.getElem?_map, e]
  have hms : ∀ l : List Nat, ((l.filterMap fun i => kws[i]?).map (·.1)) = ((l.filterMap fun i => dk[i]?).map (·.1)) := by
    intro l
    induction l with
    | nil => rfl
    | cons i l ih =>
      have h := names i
      cases h1 : kws[i]? with
      | none =>
        cases h2 : dk[i]? with
        | none => simp only [List.filterMap_cons, h1, h2]; exact ih
        | some q => rw [h1, h2] at h; cases h
      | some p =>
        cases h2 : dk[i]? with
        | none => rw [h1, h2] at h; cases h
        | some q =>
          rw [h1, h2] at h
          simp only [List.filterMap_cons, h1, h2, List.map_cons]
          rw [ih]
          simp at h
          rw [h]
  have hrm : ∀ (l : List Nat) (m : List Addr) (H : Hp), Reps K m H ((l.filterMap fun i => dk[i]?).map (·.2)) ((l.filterMap fun i => kws[i]?).map (·.2)) := by
    intro l m H
    induction l with
    | nil => exact .nil
    | cons i l ih =>
      cases h2 : dk[i]? with
      | none =>
        have h1 : kws[i]? = none := by
          rw [List.getElem?_eq_none_iff] at h2 ⊢; omega
        simp only [List.filterMap_cons, h1, h2]; exact ih
      | some q =>
        obtain ⟨u, hu, ru⟩ := (r m H).get (i := i) (v := q.2) (by rw [List.getElem?_map, h2]; rfl)
        rw [List.getElem?_map] at hu
        cases h1 : kws[i]? with
        | none => rw [h1] at hu; cases hu
        | some p =>
          rw [h1] at hu
          cases hu
          simp only [List.filterMap_cons, h1, h2, List.map_cons]
          exact .cons ru ih
  refine ⟨_, fun m H vs us zs ws r1 r2 => hrep r1 (hrm mi m H) r2, T.useK (ok kws) ks (mi.filterMap fun i => kws[i]?) g (fun z => hk (List.length_eq_zero_iff.mp (by rw [← hl, z]; rfl))) (fun q hq => ?_) hrel fun D doc pm an cdv ct us mv ws h1 h2 h3 => ?_⟩
  · obtain ⟨i, _, hi⟩ := List.mem_filterMap.mp hq
    exact List.mem_of_getElem? hi
  · rw [hms]
    refine hb D doc pm an cdv ct us mv ws h1 ?_ h3
    have := congrArg List.length (hms mi)
    simp at this
    rw [h2]; simpa using this
/-! ### the law's end -/
theorem rep_ints {m : List Addr} {H : Hp} : ∀ ns : List Int, Reps K m H (ns.map Va.int) (ns.map V.int)
  | [] => .nil
  | n :: ns => .cons (.int n) (rep_ints ns)
end
end TV
end
-- VA
section
set_option Elab.async false
set_option linter.all false
set_option maxRecDepth 100000
set_option maxHeartbeats 2000000
/-! VA: objects that are followed no longer, where a statement begins; the law's end. -/
namespace TV
open PySem L2
open TB (Def DefN FnG FunS TopF Ctx FCtx)
open PySem.Spec PyProof.Rows
def fz1 (v : Va) (O : So) : Option (Va × So) := match v with
  | .ref n => match O[n]? with
    | some (.lst vs) => some (.lst vs, O.set n .dead)
    | some (.dct vs) => some (.dct vs, O.set n .dead)
    | _ => none
  | v => some (v, O)
def mapS (f : Va → So → Option (Va × So)) : List Va → So → Option (List Va × So)
  | [], O => some ([], O)
  | v :: vs, O => match f v O with
    | some (w, O1) => match mapS f vs O1 with
      | some (ws, O2) => some (w :: ws, O2)
      | none => none
    | none => none
def mapK (f : Va → So → Option (Va × So)) : List (Key × Va) → So → Option (List (Key × Va) × So)
  | [], O => some ([], O)
  | (k, v) :: vs, O => match f v O with
    | some (w, O1) => match mapK f vs O1 with
      | some (ws, O2) => some ((k, w) :: ws, O2)
      | none => none
    | none => none
/-- .. with what lies within, so deep -/
def fzD : Nat → Va → So → Option (Va × So)
  | 0, v, O => some (v, O)
  | k + 1, v, O => match fz1 v O with
    | some (.lst vs, O1) => match mapS (fzD k) vs O1 with
      | some (ws, O2) => some (.lst ws, O2)
      | none => none
    | some (.tup vs, O1) => match mapS (fzD k) vs O1 with
      | some (ws, O2) => some (.tup ws, O2)
      | none => none
    | some (.dct vs, O1) => match mapK (fzD k) vs O1 with
      | some (ws, O2) => some (.dct ws, O2)
      | none => none
    | r => r
def sFz (f : Va → So → Option (Va × So)) (i : Nat) : Sm := fun Γ O => match Γ[i]? with
  | some (some v) => match f v O with
    | some (w, O1) => some (.nx (Γ.set i (some w)), O1)
    | none => none
  | _ => some (.nx Γ, O)
section
variable {X : Cx} {K : PySem.W.Frag}
/-- f says of a value what locking makes of it -/
def FzOk (X : Cx) (K : PySem.W.Frag) (f : Va → So → Option (Va × So)) : Prop := ∀ pins s σ m O H v u w O', Inv X pins σ H s → Fit K m O H → Rep K m H v u → f v O = some (w, O') → ∃ H', Inv X pins σ H' s ∧ Ext m H m H' ∧ Fit K m O' H' ∧ Rep K m H' w u
theorem fz1_ok : FzOk X K fz1 := by
  intro pins s σ m O H v u w O' I f r e
  unfold fz1 at e
  split at e
  · rename_i n
    cases r with
    | @ref _ p hp =>
      split at e
      · rename_i vs hn
        obtain ⟨rfl, rfl⟩ := Prod.mk.inj (Option.some.inj e)
        obtain ⟨xs, e1, rs⟩ := f.lstAt hp hn
        obtain ⟨od, I2⟩ := I.lock e1 trivial
        have un : unl (H p) := by rw [e1]; trivial
        exact ⟨_, I2, Ext.write un (List.mem_of_getElem? hp), f.kill hp un, .lst (Or.inl ⟨_, upd_same⟩) (rs.mono (Kp.put un))⟩
      · rename_i vs hn
        obtain ⟨rfl, rfl⟩ := Prod.mk.inj (Option.some.inj e)
        obtain ⟨xs, e1, rs⟩ := f.dctAt hp hn
        obtain ⟨od, I2⟩ := I.lock e1 trivial
        have un : unl (H p) := by rw [e1]; trivial
        exact ⟨_, I2, Ext.write un (List.mem_of_getElem? hp), f.kill hp un, .dct upd_same (rs.mono (Kp.put un))⟩
      · cases e
  · obtain ⟨rfl, rfl⟩ := Prod.mk.inj (Option.some.inj e)
    exact ⟨H, I, Ext.refl _ _, f, r⟩
theorem mapS_ok {f : Va → So → Option (Va × So)} (hf : FzOk X K f) {pins : List (Addr × Obj)} {s : Shared} {σ : L2.St} {m : List Addr} : ∀ {vs ws : List Va} {us : List V} {O O' : So} {H : Hp}, Inv X pins σ H s → Fit K m O H → Reps K m H vs us → mapS f vs O = some (ws, O') → ∃ H', Inv X pins σ H' s ∧ Ext m H m H' ∧ Fit K m O' H' ∧ Reps K m H' ws us
  | [], ws, us, O, O', H, I, ft, r, e => by
    cases e; cases r
    exact ⟨H, I, Ext.refl _ _, ft, .nil⟩
  | v :: vs, ws, us, O, O', H, I, ft, r, e => by
    unfold mapS at e
    split at e
    · rename_i w O1 h1
      split at e
      · rename_i ws' O2 h2
        obtain ⟨rfl, rfl⟩ := Prod.mk.inj (Option.some.inj e)
        cases r with
        | cons r rr =>
          obtain ⟨H1, I1, x1, f1, r1⟩ := hf pins s σ m O H v _ w O1 I ft r h1
          obtain ⟨H2, I2, x2, f2, r2⟩ := mapS_ok hf I1 f1 (rr.ext x1) h2
          exact ⟨H2, I2, x1.trans x2, f2, .cons (r1.ext x2) r2⟩
      · cases e
    · cases e
theorem mapK_ok {f : Va → So → Option (Va × So)} (hf : FzOk X K f) {pins : List (Addr × Obj)} {s : Shared} {σ : L2.St} {m : List Addr} : ∀ {vs ws : List (Key × Va)} {us : List (Key × V)} {O O' : So} {H : Hp}, Inv X pins σ H s → Fit K m O H → RepKV K m H vs us → mapK f vs O = some (ws, O') → ∃ H', Inv X pins σ H' s ∧ Ext m H m H' ∧ Fit K m O' H' ∧ RepKV K m H' ws us
  | [], ws, us, O, O', H, I, ft, r, e => by
    cases e; cases r
    exact ⟨H, I, Ext.refl _ _, ft, .nil⟩
  | (k, v) :: vs, ws, us, O, O', H, I, ft, r, e => by
    unfold mapK at e
    split at e
    · rename_i w O1 h1
      split at e
      · rename_i ws' O2 h2
        obtain ⟨rfl, rfl⟩ := Prod.mk.inj (Option.some.inj e)
        cases r with
        | cons r rr =>
          obtain ⟨H1, I1, x1, f1, r1⟩ := hf pins s σ m O H v _ w O1 I ft r h1
          obtain ⟨H2, I2, x2, f2, r2⟩ := mapK_ok hf I1 f1 (rr.ext x1) h2
          exact ⟨H2, I2, x1.trans x2, f2, .cons (r1.ext x2) r2⟩
      · cases e
    · cases e
theorem fzD_ok : ∀ k, FzOk X K (fzD k)
  | 0 => fun pins s σ m O H v u w O' I f r e => by
    cases e
    exact ⟨H, I, Ext.refl _ _, f, r⟩
  | k + 1 => fun pins s σ m O H v u w O' I f r e => by
    unfold fzD at e
    split at e
    · rename_i vs O1 h1
      split at e
      · rename_i ws O2 h2
        obtain ⟨rfl, rfl⟩ := Prod.mk.inj (Option.some.inj e)
        obtain ⟨H1, I1, x1, f1, r1⟩ := fz1_ok pins s σ m O H v u _ O1 I f r h1
        cases r1 with
        | @lst a xs _ h r1 =>
          obtain ⟨H2, I2, x2, f2, r2⟩ := mapS_ok (fzD_ok k) I1 f1 r1 h2
          exact ⟨H2, I2, x1.trans x2, f2, .lst (x2.lf h) r2⟩
      · cases e
    · rename_i vs O1 h1
      split at e
      · rename_i ws O2 h2
        obtain ⟨rfl, rfl⟩ := Prod.mk.inj (Option.some.inj e)
        obtain ⟨H1, I1, x1, f1, r1⟩ := fz1_ok pins s σ m O H v u _ O1 I f r h1
        cases r1 with
        | @tup a xs _ h r1 =>
          obtain ⟨H2, I2, x2, f2, r2⟩ := mapS_ok (fzD_ok k) I1 f1 r1 h2
          exact ⟨H2, I2, x1.trans x2, f2, .tup (x2.f h) r2⟩
      · cases e
    · rename_i vs O1 h1
      split at e
      · rename_i ws O2 h2
        obtain ⟨rfl, rfl⟩ := Prod.mk.inj (Option.some.inj e)
        obtain ⟨H1, I1, x1, f1, r1⟩ := fz1_ok pins s σ m O H v u _ O1 I f r h1
        cases r1 with
        | @dct a xs _ o h r1 =>
          obtain ⟨H2, I2, x2, f2, r2⟩ := mapK_ok (fzD_ok k) I1 f1 r1 h2
          exact ⟨H2, I2, x1.trans x2, f2, .dct (x2.fz _ _ _ h) r2⟩
      · cases e
    · exact fz1_ok pins s σ m O H v u w O' I f r e
/-- the value at slot i is data from here on -/
theorem s_fz {f : Va → So → Option (Va × So)} (hf : FzOk X K f) (i : Nat) {sts : List Stmt} {ms : Sm} (h : PSs X sts (TSm K ms)) : PSs X sts (TSm K (sSeq (sFz f i) ms)) := by
  refine ⟨fun pins s σ H D I hw => ?_⟩
  obtain ⟨m, Γ, O, r, O', ft, sl, e, k⟩ := hw
  unfold sSeq sFz at e
  split at e
  · rename_i Γ1 O1 h1
    split at h1
    · rename_i v hv
      split at h1
      · rename_i w O2 h2
        obtain ⟨e1, rfl⟩ := Prod.mk.inj (Option.some.inj h1)
        cases e1
        obtain ⟨u, hu, ru⟩ := sl.get hv
        obtain ⟨H2, I2, x2, f2, r2⟩ := hf pins s σ m O H v u w O2 I ft ru h2
        refine h.run pins s σ H2 D I2 ⟨m, _, O2, r, O', f2, ?_, e, k.mono x2⟩
        have := (sl.ext x2).set i r2
        rwa [show σ.set i (some u) = σ from by
          apply List.ext_getElem?
          intro j
          rw [List.getElem?_set]
          split
          · rename_i hij
            subst hij
            rw [hu]
            have : i < σ.length := (List.getElem?_eq_some_iff.mp hu).1
            simp [this]
          · rfl] at this
      · cases h1
    · obtain ⟨e1, rfl⟩ := Prod.mk.inj (Option.some.inj h1)
      cases e1
      exact h.run pins s σ H D I ⟨m, Γ, O, r, O', ft, sl, e, k⟩
  · rename_i hne
    split at e
    · rename_i v hv
      split at e
      · rename_i w O2 h2
        exact absurd (by rw [hv]; dsimp only; rw [h2]) (hne (Γ.set i (some w)) O2)
      · cases e
    · rename_i hv
      exact absurd (by
        split
        · rename_i v hv'; exact absurd hv' (hv v)
        · rfl) (hne Γ O)
end
/-! ### the law's end -/
theorem law_callV {P : Program} {w : World} {K : PySem.W.Frag} {mg mb : Str → Option Value} {CX : CXT} {k : Nat} {fa a : Addr} {fd : FuncData} {x : Str} {sp : Sp} {s₁ : Shared} {vs : List Value} {ns : List Int} (KX : K.In s₁.heap) (hns : s₁.heap.Ns mainGlobals mg) (hb : s₁.heap.Ns builtinsNs mb)
    (hbb : ∀ x : Str, x ≠ "__name__" → mb x = bootBuiltins x) (hlim : s₁.heap.NoLimit) (hg : s₁.gens = #[]) (ha : s₁.heap.get? a = some { cls := .type "list", data := .seq vs.toArray }) (hi : IntsAre vs ns) (hl : ns.length ≤ sizeLine) (hr : Room k callerA) (F : ∀ base : Heap, FnG P w K mg base CX k fa fd [x] sp)
    (hbind : ∀ (s : Shared) (u : Value), BindsTo s fd ⟨[u], []⟩ [(x, u)]) (hsp : ∀ H : Hp, Only H → LstF K H a (ns.map V.int) → sp [.ref a] H (fun v _ => v = .bl true) fun _ _ _ => False) (hCX : ∀ H e s', CX [] H s₁ (fun _ _ _ => False) e s' → False) :
    codeAny (model P w) callerA (.call (.ref fa) ⟨[.ref a], []⟩) (fun r s' => r = .ok (.ret (.bool true)) ∧ OldK s₁.heap s'.heap ∧ s'.os = s₁.os ∧ AllBare s'.gens) s₁ := by
  by_cases hk : K.lookup a = none
  · refine TB.law_callG KX hns hb hbb hlim hg ha hi hl hr F hbind (fun H hO hS => hsp H hO ?_) hCX
    rcases hS with hS | ⟨o, its, n, h1, _⟩
    · rcases hO a with z | ⟨ob, xs, z⟩
      · rcases hS with hS | ⟨o, hS⟩
        · rw [z] at hS; cases hS
        · rw [z] at hS; cases hS
      · rcases hS with hS | ⟨o, hS⟩
        · rw [z] at hS; cases hS
        · exact Or.inl ⟨o, hS⟩
    · rw [hk] at h1; cases h1
  · obtain ⟨o, hk⟩ := Option.ne_none_iff_exists'.mp hk
    have e := KX a o hk
    rw [ha] at e
    cases e
    refine TB.law_callG KX hns hb hbb hlim hg ha hi hl hr F hbind (fun H hO hS => hsp H hO (Or.inr ⟨vs.toArray, _, hk, ?_, ?_⟩)) hCX
    · have := hi.length
      simpa [this] using hl
    · simpa using vals_ints hi
/-- a law that gives True at every script of at most 63 ints -/
theorem law_spV {K : PySem.W.Frag} {F : Fn} {H : Hp} {a : Addr} {ns : List Int} (hF : ∀ (ns : List Int), ns.length ≤ 63 → (∀ z ∈ ns, z.natAbs < 2 ^ 1048576) → ∃ O', F [.lst (ns.map Va.int)] [] = some (.bool true, O')) (h : ns.length ≤ 63) (hz : ∀ z ∈ ns, Builtin.Int.intBits z ≤ 1048576) (hr : LstF K H a (ns.map V.int)) : spF K F [.ref a] H (fun v _ => v = .bl true) fun _ _ _ => False := by
  have hz' : ∀ z ∈ ns, z.natAbs < 2 ^ 1048576 := fun z hm => by
    have h1 := hz z hm
    unfold Builtin.Int.intBits at h1
    split at h1
    · rename_i h0
      have : z.natAbs = 0 := by
        first | exact by simpa using h0 | omega
      rw [this]; exact Nat.two_pow_pos _
    · exact Nat.lt_of_lt_of_le (Nat.lt_log2_self) (Nat.pow_le_pow_right (by decide) h1)
  obtain ⟨O', e⟩ := hF ns h hz'
  exact ⟨[], [], [.lst (ns.map Va.int)], .bool true, O', ⟨rfl, List.nodup_nil, fun _ z => (by cases z), fun _ _ _ z => (by simp at z)⟩, .cons (.lst hr (rep_ints ns)) .nil, e, fun m' H' v _ _ r => by cases r; rfl⟩
theorem law_end {l : PySem.W.OpenLaw} {q : Program} {loose : List Str} {XP : (Str → Option Value) → Heap → Prop} {YP : World → Heap → Prop} {d : DefRec} {K : Params → PySem.W.Frag} {st : Stmt} {x : Str} {k : Nat} {F : Fn} (hn : l.most = some 63) (hdf : d.params.defaults = []) (hname : d.name = "law") (hr : Room k callerA)
    (hY : ∀ (w : World) (h : Heap), YP w h → (K w.params).In h)
    (hb : ∀ (kV doc pm : Value) (an : Option Addr) (cdv ct : Value) (us : List Value), us.length = 1 → bindArgs (PySem.W.fnOf "law" "law" (defArgs st) (defBody st) (defScope st) .none kV doc pm an cdv ct) ⟨us, []⟩ = pure ([x].zip us))
    (hF : ∀ (ns : List Int), ns.length ≤ 63 → (∀ z ∈ ns, z.natAbs < 2 ^ 1048576) → ∃ O', F [.lst (ns.map Va.int)] [] = some (.bool true, O'))
    (T : ∀ (w : World) (mg : Str → Option Value) (h : Heap), (K w.params).In h → h.Ns mainGlobals mg → TopV (K w.params) mg "law" st [] ∧ ∀ (base : Heap) (kws : List (Str × V)) (f : Addr) (fd : FuncData), FunS (K w.params) "law" st [] kws f fd → FnG l.prog w (K w.params) mg base CX0 k f fd [x] (spF (K w.params) F)) :
    PySem.W.WalkO q loose XP YP l.row.toRowW d [] (fun f vs => PySem.call f vs) := by
  refine Att.attach_callB hn hdf fun w s₀ s₁ mg mb fa o pm cd doc a vs ns G Y ho hd hcd hmg hobj hints hlen hbits hg => ?_
  obtain ⟨⟨kws, ⟨f, fd, F1, m⟩, _⟩, F2⟩ := T w mg _ (hY w _ Y) G.T.g
  rw [hname, m] at hmg
  cases hmg
  exact law_callV (hY w _ Y) G.T.g G.T.b G.T.builtins G.T.nolimit hg hobj hints (Nat.le_trans hlen (by decide)) hr (fun base => F2 base kws _ _ F1) (fun s u => F1.bindsA (ps := [x]) hb s [u] rfl) (fun H _ hS => law_spV hF hlen hbits hS) fun H e s' z => z
end TV
end
-- VS
section
set_option Elab.async false
set_option linter.all false
set_option maxRecDepth 100000
set_option maxHeartbeats 4000000
/-! VS: sum of lists. -/
namespace TV
open PySem PySem.Spec PyProof.Rows
section
variable {prog : Program} {w : World} {A : Around} {E : Value → Shared → Prop} {s : Shared}
theorem add_lists {a b : Addr} {xs ys : List Value} {Q : Value → Shared → Prop} (ha : PlainL s.heap a xs.toArray) (hb : PlainL s.heap b ys.toArray) (hz : xs.length + ys.length ≤ sizeLine)
    (h : Q (.ref s.heap.objs.size) { s with heap := s.heap.push { cls := .type "list", data := .seq (xs ++ ys).toArray } }) : wpAny (model prog w) A (binaryOp .Add (.ref a) (.ref b)) Q E s := by
  obtain ⟨⟨c1, d1, t1, sl1⟩, n, e, hc, hd, hs⟩ := ha
  obtain ⟨⟨c2, d2, t2, sl2⟩, n2, e2, hc2, hd2, hs2⟩ := hb
  simp only at hc hd hs hc2 hd2 hs2
  subst hc hd hs hc2 hd2 hs2
  refine concat_meets ⟨_, e, rfl⟩ ⟨_, e2, rfl⟩ noFill_list_add seq_list_add PySem.F.slot_list_add PySem.F.entry_list_add (PySem.F.args_list_add_2 _ _) (list_addW a b xs.toArray ys.toArray n n2 none none sl1 sl2 (by rw [List.size_toArray, List.size_toArray]; omega)) ⟨e, e2, ?_⟩
  have ea : xs.toArray ++ ys.toArray = (xs ++ ys).toArray := by simp
  rw [ea]
  exact h
theorem args_sum2 (a b : Value) : argsOk "sum" ⟨[a, b], []⟩ := by unfold argsOk; kernel_rfl
/-- the lists one behind another -/
def totL (a : List Value) (p : Nat → List Value) : Nat → List Value
  | 0 => a
  | i + 1 => totL a p i ++ p i
theorem totL_le (a : List Value) (p : Nat → List Value) {i j : Nat} (h : i ≤ j) : (totL a p i).length ≤ (totL a p j).length := by
  induction j with
  | zero => rw [Nat.le_zero.mp h]; exact Nat.le_refl _
  | succ j ih =>
    by_cases e : i = j + 1
    · subst e; exact Nat.le_refl _
    · have := ih (by omega)
      simp only [totL, List.length_append]
      omega
theorem sum_loopL {I l S : Addr} {vs : Array Value} {st : Addr} {s0 : Shared} {a0 : List Value} {p : Nat → List Value} {Q : Value → Shared → Prop} (hI : I = s0.heap.objs.size)
    (W : WalksS prog w A.in1 I [I, l] [I] (fun a b => b = a) vs.size (fun i v => vs[i]? = some v) (fun i s' => s'.heap.IsListIter I l i ∧ s'.heap.IsList l vs)) (hSf : S ∉ [I, l])
    (hv : ∀ i v, vs[i]? = some v → ∃ a, v = .ref a ∧ PlainL s0.heap a (p i).toArray) (hz : (totL a0 p vs.size).length ≤ sizeLine) (hS0 : ∀ o, s0.heap.get? S ≠ some o)
    (h0 : vs.size = 0 → ∀ s' : Shared, Moved [I, S] (fun a b => b = a) s0 s' → Q (.ref st) s')
    (h1 : 0 < vs.size → ∀ (s' : Shared) (t : Addr), Moved [I, S] (fun a b => b = a) s0 s' → s0.heap.objs.size ≤ t → (∃ n, s'.heap.get? t = some { cls := .type "list", data := .seq (totL a0 p vs.size).toArray n }) → Q (.ref t) s') :
    ∀ (k i : Nat) (s : Shared) (t : Addr) (c : Nat), vs.size - i = k → i ≤ vs.size → (s.heap.IsListIter I l i ∧ s.heap.IsList l vs) → Moved [I, S] (fun a b => b = a) s0 s → s.heap.get? S = some { cls := .type "list", dict := none, data := .seq #[.ref t] c, slots := #[] } →
      PlainL s.heap t (totL a0 p i).toArray → (i = 0 → t = st) → (0 < i → s0.heap.objs.size ≤ t ∧ ∃ n, s.heap.get? t = some { cls := .type "list", data := .seq (totL a0 p i).toArray n }) → t ≠ S → t ≠ I →
      codeAny (model prog w) A (.builtin "sum.loop" ⟨[.ref I, .ref S, rawInt 2, rawInt 0], []⟩) (fun r s' => ∃ v, r = .ok (.ret v) ∧ Q v s') s := by
  have hSw : S ∉ [I] := fun h => hSf (by rw [List.mem_singleton.mp h]; exact List.mem_cons_self)
  have hIS : I ≠ S := fun e => hSf (by rw [← e]; exact List.mem_cons_self)
  have sub : ∀ b ∈ [I], b ∈ [I, S] := fun b hb => List.mem_cons.mpr (Or.inl (List.mem_singleton.mp hb))
  intro k
  induction k with
  | zero =>
    intro i s t c hk hi hst hm0 hS hp e0 e1 htS htI
    have hin : i = vs.size := by omega
    subst hin
    refine codeAny_builtin F.entry_sum_loop ?_
    rw [Around.under_plainId F.plain_sum_loop _]
    show wpAny _ A.in1 (seqItems? (.ref S) >>= _) _ _ s
    refine wpAny_bind (wpAny_seqItems hS rfl ?_)
    show wpAny _ A.in1 (tryCatch (pyNext (.ref I)) _ >>= _) _ _ s
    refine wpAny_bind (wpAny_tryCatch (W.done s _ _ hst fun s' hm => ?_))
    have hm1 : Moved [I, S] (fun a b => b = a) s0 s' := Moved.trans W.gtrans hm0 (hm.mono sub)
    by_cases hz0 : vs.size = 0
    · rw [e0 hz0]
      exact wpAny_pure ⟨_, rfl, h0 hz0 s' hm1⟩
    · obtain ⟨a, n, b⟩ := e1 (by omega)
      exact wpAny_pure ⟨_, rfl, h1 (by omega) s' t hm1 a ⟨n, hm.heap t _ (fun z => htI (List.mem_singleton.mp z)) b⟩⟩
  | succ k ih =>
    intro i s t c hk hi hst hm0 hS hp e0 e1 htS htI
    have hlt : i < vs.size := by omega
    refine codeAny_builtin F.entry_sum_loop ?_
    rw [Around.under_plainId F.plain_sum_loop _]
    show wpAny _ A.in1 (seqItems? (.ref S) >>= _) _ _ s
    refine wpAny_bind (wpAny_seqItems hS rfl ?_)
    show wpAny _ A.in1 (tryCatch (pyNext (.ref I)) _ >>= _) _ _ s
    refine wpAny_bind (wpAny_tryCatch (W.item i s _ _ hlt hst fun v s' hP hst' hm => ?_))
    obtain ⟨a, rfl, hpa0⟩ := hv i v hP
    have hm1 : Moved [I, S] (fun a b => b = a) s0 s' := Moved.trans W.gtrans hm0 (hm.mono sub)
    have hS' := hm.heap S _ hSw hS
    have hp' : PlainL s'.heap t (totL a0 p i).toArray := let ⟨o, n, e, r⟩ := hp; ⟨o, n, hm.heap t o (fun z => htI (List.mem_singleton.mp z)) e, r⟩
    have hpa : PlainL s'.heap a (p i).toArray := by
      obtain ⟨o, n, e, r⟩ := hpa0
      refine ⟨o, n, hm1.heap a o (fun z => ?_) e, r⟩
      rcases List.mem_cons.mp z with q | q
      · exact absurd (Heap.lt_size e) (by rw [q, hI]; exact Nat.lt_irrefl _)
      · exact hS0 o (by rw [← List.mem_singleton.mp q]; exact e)
    have hIlt : I < s'.heap.objs.size := by obtain ⟨⟨o, e, _⟩, _⟩ := hst'; exact Heap.lt_size e
    have hlen : (totL a0 p i).length + (p i).length ≤ sizeLine := by
      have := totL_le a0 p (show i + 1 ≤ vs.size by omega)
      simp only [totL, List.length_append] at this
      omega
    show wpAny _ A.in1 ((holding [Value.ref a] (binaryOp .Add (.ref t) (.ref a))).attempt >>= _) _ _ _
    refine wpAny_bind (wpAny_attempt (wpAny_holding (add_lists hp' hpa hlen ?_)))
    have hTl : S < s'.heap.objs.size := Heap.lt_size hS'
    have hS'' : (s'.heap.push { cls := .type "list", data := .seq (totL a0 p i ++ p i).toArray }).get? S = some { cls := .type "list", dict := none, data := .seq #[.ref t] c, slots := #[] } := Heap.get?_push_of_some _ hS'
    show wpAny _ A.in1 (updateSeq S (fun _ => #[Value.ref s'.heap.objs.size]) >>= _) _ _ _
    refine wpAny_bind (wpAny_updateSeq hS'' rfl ?_)
    have hS₂ := Heap.get?_update_self (Obj.mapSeq fun _ => #[Value.ref s'.heap.objs.size]) hS'' rfl
    refine wpAny_bind (wpAny_letGo ?_)
    have oth : ∀ (b : Addr) (o : Obj), b ≠ S → s'.heap.get? b = some o → ((s'.heap.push { cls := .type "list", data := .seq (totL a0 p i ++ p i).toArray }).update S (Obj.mapSeq fun _ => #[Value.ref s'.heap.objs.size])).get? b = some o := fun b o hb e =>
      (Heap.get?_update_other _ _ (fun h : S = b => hb h.symm)).trans (Heap.get?_push_of_some _ e)
    have oth2 : ∀ (h : Heap) (b : Addr) (o : Obj), b ≠ S → h.get? b = some o → (h.update S (Obj.mapSeq fun _ => #[Value.ref s'.heap.objs.size])).get? b = some o := fun h b o hb e =>
      (Heap.get?_update_other _ _ (fun h : S = b => hb h.symm)).trans e
    have newT : ((s'.heap.push { cls := .type "list", data := .seq (totL a0 p i ++ p i).toArray }).update S (Obj.mapSeq fun _ => #[Value.ref s'.heap.objs.size])).get? s'.heap.objs.size = some { cls := .type "list", data := .seq (totL a0 p i ++ p i).toArray } :=
      oth2 _ _ _ (Nat.ne_of_gt hTl) (Heap.get?_push_size _ rfl)
    refine wpAny_bind (wpAny_updateSeq hS₂ rfl (wpAny_pure ⟨plainId_quiet F.plain_sum_loop _, ih (i + 1) _ s'.heap.objs.size _ (by omega) hlt ?_ ?_ (Heap.get?_update_self _ hS₂ rfl) ?_ (fun z => by omega) (fun _ => ⟨?_, ?_⟩) (Nat.ne_of_gt hTl) (Nat.ne_of_gt hIlt)⟩))
    · exact W.frame _ s' _ _ hst' (by first | exact Nat.le_refl _ | exact Nat.le_succ _ | omega) fun b hb o e => oth2 _ b o (fun z => hSf (by rw [← z]; exact hb)) (oth b o (fun z => hSf (by rw [← z]; exact hb)) e)
    · refine Moved.trans W.gtrans hm1 ⟨fun b o hb e => oth2 _ b o (fun z => hb (by rw [z]; simp)) (oth b o (fun z => hb (by rw [z]; simp)) e), rfl, rfl, rfl, by first | exact Nat.le_refl _ | exact Nat.le_succ _ | omega⟩
    · exact ⟨_, _, oth2 _ _ _ (Nat.ne_of_gt hTl) newT, rfl, rfl, rfl⟩
    · rw [hI] at hIlt; exact Nat.le_of_lt hIlt
    · exact ⟨_, oth2 _ _ _ (Nat.ne_of_gt hTl) newT⟩
theorem sum_lists {l st : Addr} {vs : Array Value} {a0 : List Value} {p : Nat → List Value} {Q : Value → Shared → Prop} (hh : A.handled = none) (hl : s.heap.IsList l vs) (hst : PlainL s.heap st a0.toArray)
    (hv : ∀ i v, vs[i]? = some v → ∃ a, v = .ref a ∧ PlainL s.heap a (p i).toArray) (hz : (totL a0 p vs.size).length ≤ sizeLine)
    (h0 : vs.size = 0 → ∀ h' tk, (∀ b o, s.heap.get? b = some o → h'.get? b = some o) → Q (.ref st) { s with heap := h', toks := tk })
    (h1 : 0 < vs.size → ∀ h' tk t, (∀ b o, s.heap.get? b = some o → h'.get? b = some o) → s.heap.objs.size ≤ t → (∃ n, h'.get? t = some { cls := .type "list", data := .seq (totL a0 p vs.size).toArray n }) → Q (.ref t) { s with heap := h', toks := tk }) :
    wpAny (model prog w) A (call (.builtin "sum") [.ref l, .ref st]) Q E s := by
  refine call_function_tree F.kind_sum F.plain_sum F.entry_sum (args_sum2 _ _) ?_
  unfold Builtin.«sum»
  simp only [List.length_cons, List.length_nil]
  rw [if_neg (by decide)]
  refine wpAny_bind (wpAny_of_eq (show Builtin.Builtins.bindParams "sum" ["start"] 0 ⟨[.ref st], []⟩ = pure [some (.ref st)] from rfl) ?_)
  refine wpAny_bind (PySem.W.iter_listW (A := A.in1) hh hl fun s₂ e W hs2 hfp hw hk => ?_)
  have ts : s₂.TypeIs (.ref st) "list" := by
    obtain ⟨o, n, e1, e2, _⟩ := hst
    exact ⟨o, hk _ _ e1, e2⟩
  refine wpAny_bind (wpAny_pure ?_)
  simp only [List.forIn_cons, List.forIn_nil]
  refine wpAny_bind (wpAny_bind (wpAny_bind (wpAny_isInstance (T := "list") (b := false) ts F.sub_list_str ?_)))
  simp only [Bool.false_eq_true, if_false]
  refine wpAny_pure (wpAny_bind (wpAny_bind (wpAny_isInstance (T := "list") (b := false) ts F.sub_list_bytes ?_)))
  simp only [Bool.false_eq_true, if_false]
  refine wpAny_pure (wpAny_bind (wpAny_bind (wpAny_isInstance (T := "list") (b := false) ts F.sub_list_bytearray ?_)))
  simp only [Bool.false_eq_true, if_false]
  refine wpAny_pure (wpAny_pure ?_)
  refine wpAny_bind (wpAny_newObj_type ?_)
  have hSf : s₂.heap.objs.size ∉ [s.heap.objs.size, l] := fun hm => Nat.lt_irrefl _ (hfp _ hm)
  have hsz : s₂.heap.objs.size = s.heap.objs.size + 1 := by rw [e]; exact Heap.size_push _ _
  have lt_of : ∀ b o, s.heap.get? b = some o → b ≠ s.heap.objs.size ∧ b ≠ s₂.heap.objs.size := fun b o q => by
    have := Heap.lt_size q
    exact ⟨Nat.ne_of_lt this, Nat.ne_of_lt (by rw [hsz]; exact Nat.lt_succ_of_lt this)⟩
  have back : ∀ s' : Shared, Moved [s.heap.objs.size, s₂.heap.objs.size] (fun a b => b = a) s s' → ∃ h' tk, s' = { s with heap := h', toks := tk } ∧ ∀ b o, s.heap.get? b = some o → h'.get? b = some o := fun s' hm => by
    obtain ⟨h', g', d', tk', os'⟩ := s'
    have e1 : g' = s.gens := hm.gens
    have e2 : d' = s.drawn := hm.drawn
    have e3 : os' = s.os := hm.os
    subst e1 e2 e3
    refine ⟨h', tk', rfl, fun b o q => hm.heap b o (fun z => ?_) q⟩
    have := lt_of b o q
    rcases List.mem_cons.mp z with y | y
    · exact this.1 y
    · exact this.2 (List.mem_singleton.mp y)
  refine wpAny_pure ⟨plainId_quiet F.plain_sum_loop _, codeAny_mono (sum_loopL (s0 := s) (st := st) (a0 := a0) (p := p) (Q := Q) rfl W hSf hv hz (fun o q => absurd (Heap.lt_size q) (by rw [hsz]; exact Nat.not_lt.mpr (Nat.le_succ _))) (fun hz0 s' hm => ?_) (fun hz0 s' t hm ht hn => ?_) vs.size 0 _ st 0 rfl (Nat.zero_le _)
    (W.frame 0 s₂ _ _ hs2 (by first | exact Nat.le_refl _ | exact Nat.le_succ _ | omega) fun b _ o e => Heap.get?_push_of_some _ e) ?_ (Heap.get?_push_size _ rfl) ?_ (fun _ => rfl) (fun z => by omega) ?_ ?_) fun r s' h => ?_⟩
  · obtain ⟨h', tk, rfl, kk⟩ := back s' hm
    exact h0 hz0 h' tk kk
  · obtain ⟨h', tk, rfl, kk⟩ := back s' hm
    exact h1 hz0 h' tk t kk ht hn
  · subst e
    exact ⟨fun b o hb q => Heap.get?_push_of_some _ (hk b o q), rfl, rfl, rfl, by first | exact Nat.le_refl _ | exact Nat.le_succ _ | omega⟩
  · obtain ⟨o, n, e1, r⟩ := hst
    exact ⟨o, n, Heap.get?_push_of_some _ (hk _ _ e1), r⟩
  · obtain ⟨o, n, e1, r⟩ := hst
    exact (lt_of _ _ e1).2
  · obtain ⟨o, n, e1, r⟩ := hst
    exact (lt_of _ _ e1).1
  · obtain ⟨v, rfl, q⟩ := h
    exact q
end
end TV
end
-- VB
section
set_option Elab.async false
set_option linter.all false
set_option maxRecDepth 100000
set_option maxHeartbeats 4000000
/-! VB: dict(pairs), sum of lists, sorted, max, min; chains; displays of dicts. -/
namespace TV
open PySem L2
open TB (SqF NewT Ctx FCtx GK lk pt RelKV tOrE tOrS)
def pairOf : Va → Option (Key × Va)
  | .tup [k, v] => (keyOf k).map fun k => (k, v)
  | _ => none
def pairsIn : List Va → Option (List (Key × Va))
  | [] => some []
  | v :: vs => match pairOf v, pairsIn vs with
    | some p, some ps => some (p :: ps)
    | _, _ => none
def mrg (l more : List (Key × Va)) : List (Key × Va) := more.foldl (fun acc kv => pt acc kv.1 kv.2) l
def dictV (O : So) : List Va → Option Va
  | [v] => (asQ O v).bind fun vs => (pairsIn vs).map fun ps => .dct (mrg [] ps)
  | _ => none
def listsIn (O : So) : List Va → Option (List (List Va))
  | [] => some []
  | v :: vs => match asL O v, listsIn O vs with
    | some p, some ps => some (p :: ps)
    | _, _ => none
def sum2V (O : So) : List Va → Option Va
  | [v, st] => match asL O v, asL O st with
    | some [], some _ => some st
    | some vs, some a => match listsIn O vs with
      | some yss => if (a ++ yss.flatten).length ≤ sizeLine then some (.lst (a ++ yss.flatten)) else none
      | none => none
    | _, _ => none
  | _ => none
def alikeB (vs : List Va) : Bool := vs.all fun x => vs.all fun y => PySem.W.alike (toD x) (toD y)
def sortB (vs : List Va) : Bool := (vs.all fun x => match x with | .tup (_ :: _) => true | _ => false) || (vs.all fun x => match x with | .int _ => true | .str _ => true | .lst _ => true | _ => false)
def leD (x y : Va) : Bool := !PySem.W.dataLt (toD y) (toD x)
def strKs : List (Key × Va) → Option (List Str)
  | [] => some []
  | (.inr x, _) :: r => (strKs r).map fun l => x :: l
  | _ => none
def sortedV (O : So) : List Va → Option Va
  | [v] => match asL O v with
    | some vs => if plAll 50 vs = true ∧ alikeB vs = true ∧ sortB vs = true ∧ vs.length ≤ sizeLine then some (.lst (vs.mergeSort leD)) else none
    | none => match asD O v with
      | some kvs => match strKs kvs with
        | some ks => if ks.length < 64 then some (.lst ((ks.map Va.str).mergeSort leD)) else none
        | none => none
      | none => none
  | _ => none
def intsOf : List Va → Option (List Int)
  | [] => some []
  | .int i :: vs => (intsOf vs).map fun l => i :: l
  | _ => none
section
variable {K : PySem.W.Frag} {m : List Addr} {H : Hp} {O : So}
theorem pairs_rep : ∀ {vs : List Va} {xs : List V} {ps : List (Key × Va)}, Reps K m H vs xs → pairsIn vs = some ps → ∃ (as : List Addr) (kvs : List (Key × V)), xs = as.map V.ref ∧ Paired (fun p kv => SqT K H p [kV kv.1, kv.2]) as kvs ∧ RelKV (Rep K m H) ps kvs
  | [], _, _, h, e => by cases e; cases h; exact ⟨[], [], rfl, .nil, .nil⟩
  | v :: vs, _, ps, h, e => by
    cases h with
    | cons h r =>
      unfold pairsIn at e
      split at e
      · rename_i p ps' hp hps
        cases e
        obtain ⟨as, kvs, rfl, h2, h3⟩ := pairs_rep r hps
        unfold pairOf at hp
        split at hp
        · rename_i k w
          cases hk : keyOf k with
          | none => rw [hk] at hp; cases hp
          | some kk =>
            rw [hk] at hp; cases hp
            cases h with
            | @tup a xs _ hq rr =>
              cases rr with
              | cons r1 rr =>
                cases rr with
                | @cons _ _ y _ r2 rr =>
                  cases rr
                  have := rep_key hk r1
                  subst this
                  exact ⟨a :: as, (kk, y) :: kvs, rfl, .cons hq.t h2, .cons ⟨rfl, r2⟩ h3⟩
        · cases hp
      · cases e
theorem merge_rel {ps : List (Key × Va)} {kvs : List (Key × V)} (h : RelKV (Rep K m H) ps kvs) : ∀ {l : List (Key × Va)} {ks : List (Key × V)}, RelKV (Rep K m H) l ks → RelKV (Rep K m H) (mrg l ps) (mergeK ks kvs) := by
  unfold mrg mergeK
  have h' : Paired (fun (p : Key × Va) (q : Key × V) => p.1 = q.1 ∧ Rep K m H p.2 q.2) ps kvs := h
  clear h
  induction h' with
  | nil => intro l ks hl; exact hl
  | @cons p q ps kvs h t ih =>
    intro l ks hl
    obtain ⟨k, v⟩ := p
    obtain ⟨k', x⟩ := q
    obtain ⟨e, r⟩ := h
    simp only at e r
    subst e
    exact ih (hl.put r)
/-- dict(t), t a tuple of pairs -/
theorem call_dictT {X : Cx} (hcalm : X.calm = true) : CallR X (.type "dict") (fun xs H Q => ∃ (a : Addr) (ps : List Addr) (kvs : List (Key × V)), xs = [.ref a] ∧ SqF X.K H a (ps.map V.ref) ∧ Paired (fun p kv => SqT X.K H p [kV kv.1, kv.2]) ps kvs ∧
    ∀ p, H p = none → Q (.ref p) (upd H p (.dK (mergeK [] kvs)))) := by
  intro pins s σ H xs us Q I r q
  obtain ⟨a, ps, kvs, ex, hq, hp, q⟩ := q
  subst ex
  obtain ⟨u, eu, rx⟩ := vals1 r
  subst eu
  cases rx
  obtain ⟨its, rv, pl, hz⟩ := I.tuple hq.t
  have ei := refs_at rv
  subst ei
  rw [List.length_map] at hz
  obtain ⟨prs, rel, hl, hpr⟩ := pairs_of I hp
  have plain : PySem.PlainSeq "tuple" s.heap a (ps.map Value.ref).toArray := by
    obtain ⟨o, ho, hc, n, hd⟩ := pl
    refine ⟨o, n, ho, hc, ?_, hd⟩
    rcases hq with ⟨o', h1, h2⟩ | ⟨o', its', n', h1, _, _, _, _, h2⟩
    · have := (I.hok a _ h1).1
      rw [ho] at this; cases this; exact h2
    · have := I.kIn a o' h1
      rw [ho] at this; cases this; exact h2
  -- the pairs as values
  have hval : ∃ ks : List Value, ks.length = prs.length ∧ ∀ (j : Nat) (k : Value) (q : Key × Value), ks[j]? = some k → prs[j]? = some q → ∃ b, ps[j]? = some b ∧ PyProof.Rows.IsTup s.heap b #[k, q.2] ∧ keyIs q.1 k = true := by
    have key : ∀ (n : Nat), n ≤ prs.length → ∃ ks : List Value, ks.length = n ∧ ∀ (j : Nat) (k : Value) (q : Key × Value), ks[j]? = some k → prs[j]? = some q → ∃ b, ps[j]? = some b ∧ PyProof.Rows.IsTup s.heap b #[k, q.2] ∧ keyIs q.1 k = true := by
      intro n
      induction n with
      | zero => intro _; exact ⟨[], rfl, fun j k q e => by simp at e⟩
      | succ n ih =>
        intro hn
        obtain ⟨ks, h1, h2⟩ := ih (by omega)
        have hlt : n < prs.length := by omega
        obtain ⟨b, u, e1, e2, e3⟩ := hpr n prs[n] (by simp [hlt])
        refine ⟨ks ++ [u], by simp [h1], fun j k q ek eq => ?_⟩
        by_cases hj : j < n
        · rw [List.getElem?_append_left (by omega)] at ek
          exact h2 j k q ek eq
        · have : j = n := by
            have := (List.getElem?_eq_some_iff.mp ek).1
            simp at this; omega
          subst this
          rw [← h1] at ek
          simp at ek
          subst ek
          rw [List.getElem?_eq_getElem hlt] at eq
          cases eq
          exact ⟨b, e1, e2, e3⟩
    exact key prs.length (Nat.le_refl _)
  obtain ⟨ks, hks, hk2⟩ := hval
  let ts : List (Value × Value) := ks.zip (prs.map (·.2))
  have hts : ts.length = prs.length := by simp [ts, hks]
  have tsj : ∀ (j : Nat) (k v : Value), ts[j]? = some (k, v) → ks[j]? = some k ∧ ∃ q, prs[j]? = some q ∧ q.2 = v := by
    intro j k v e
    simp only [ts, List.getElem?_zip_eq_some] at e
    refine ⟨e.1, ?_⟩
    have := e.2
    rw [List.getElem?_map] at this
    cases hq : prs[j]? with
    | none => rw [hq] at this; cases this
    | some q => rw [hq] at this; cases this; exact ⟨q, rfl, rfl⟩
  refine PySem.call_dict_pairs (P := PySem.PairArg.tuple a (ps.map Value.ref).toArray (fun j => ps.getD j 0) ts) (I.ok.hd hcalm) ⟨plain, ⟨by simp [hts, hl], fun j k v e => ?_⟩⟩ (knd := mixKind X.prog X.w) (kvs := prs) ⟨hts.symm, fun i k v e => ?_⟩ (by rw [hts, hl]; exact hz) fun h' tk hd' kp => ?_
  · obtain ⟨e1, q, e2, rfl⟩ := tsj j k v e
    obtain ⟨b, e3, e4, e5⟩ := hk2 j k q e1 e2
    have : ps.getD j 0 = b := by rw [List.getD_eq_getElem?_getD, e3]; rfl
    dsimp only
    rw [this]
    exact ⟨by simp [e3], Or.inl e4⟩
  · obtain ⟨e1, q, e2, rfl⟩ := tsj i k v e
    obtain ⟨b, e3, e4, e5⟩ := hk2 i k q e1 e2
    exact ⟨q.1, e2, e5⟩
  · have hm : (s.heap.objs.size == sysModules) = false := beq_eq_false_iff_ne.mpr (Nat.ne_of_gt I.big)
    have hlen : (mergeK [] kvs).length ≤ sizeLine := by
      refine Nat.le_trans (length_mergeK kvs []) ?_
      rw [List.length_nil, Nat.zero_add, rel.length, hl]
      exact hz
    exact ⟨.ref s.heap.objs.size, upd H s.heap.objs.size (.dK (mergeK [] kvs)), I.laid (t' := tk) (fun b o e => kp b o (by simp) e) (Nat.le_refl _) (show ObjOk X.prog X.w _ _ _ (.dK (mergeK [] kvs)) from ⟨hlen, hm, merged [] prs, KV.merge rel .nil, hd'⟩), rfl, q _ (I.hok.fresh (Nat.le_refl _))⟩
def rDictA (K : PySem.W.Frag) : List V → Hp → VK → Prop := fun xs H Q => (∃ (a : Addr) (ps : List Addr) (kvs : List (Key × V)), xs = [.ref a] ∧ SqL K H a (ps.map V.ref) ∧ Paired (fun p kv => SqT K H p [kV kv.1, kv.2]) ps kvs ∧
    ∀ p, H p = none → Q (.ref p) (upd H p (.dK (mergeK [] kvs)))) ∨ ∃ (a : Addr) (ps : List Addr) (kvs : List (Key × V)), xs = [.ref a] ∧ SqF K H a (ps.map V.ref) ∧ Paired (fun p kv => SqT K H p [kV kv.1, kv.2]) ps kvs ∧
    ∀ p, H p = none → Q (.ref p) (upd H p (.dK (mergeK [] kvs)))
theorem sem_dict : ∀ m O H xs us w Q, Fit K m O H → Reps K m H xs us → dictV O xs = some w → (∀ m' H' z, Ext m H m' H' → Fit K m' O H' → Raw K H m' H' w z → Q z H') → rDictA K us H Q := by
  intro m O H xs us w Q f r e k
  unfold dictV at e
  split at e
  · rename_i v
    cases hq : asQ O v with
    | none => simp [hq] at e
    | some vs =>
      cases hp : pairsIn vs with
      | none => simp [hq, hp] at e
      | some ps =>
        simp [hq, hp] at e
        subst e
        cases r with
        | cons r rr =>
          cases rr
          have fin : ∀ (kvs : List (Key × V)), RelKV (Rep K m H) ps kvs → ∀ p, H p = none → Q (.ref p) (upd H p (.dK (mergeK [] kvs))) := fun kvs rel p np => by
            obtain ⟨h1, h2, h3⟩ := Raw.newD f np (RepKV.of (merge_rel rel (l := []) (ks := []) .nil))
            exact k m _ _ h1 h2 h3
          cases v with
          | tup us =>
            cases hq
            cases r with
            | @tup a xs _ h rs =>
              obtain ⟨as, kvs, rfl, h2, h3⟩ := pairs_rep rs hp
              exact Or.inr ⟨a, as, kvs, rfl, h, h2, fin kvs h3⟩
          | lst us =>
            cases hq
            cases r with
            | @lst a xs _ h rs =>
              obtain ⟨as, kvs, rfl, h2, h3⟩ := pairs_rep rs hp
              exact Or.inl ⟨a, as, kvs, rfl, h.l, h2, fin kvs h3⟩
          | ref n =>
            have hl : asL O (.ref n) = some vs := hq
            obtain ⟨a, xs, rfl, h, rs⟩ := rep_L f hl r
            obtain ⟨as, kvs, rfl, h2, h3⟩ := pairs_rep rs hp
            exact Or.inl ⟨a, as, kvs, rfl, h.l, h2, fin kvs h3⟩
          | _ => cases hq
  · cases e
/-! sum of lists -/
def rSum2 (K : PySem.W.Frag) : List V → Hp → VK → Prop := fun us H Q => ∃ l st xs yss a0, us = [.ref l, .ref st] ∧ SqL K H l xs ∧ SqL K H st a0 ∧ Paired (fun x ys => ∃ a, x = V.ref a ∧ SqL K H a ys) xs yss ∧ (xs ≠ [] → (a0 ++ yss.flatten).length ≤ sizeLine) ∧
  (xs = [] → Q (.ref st) H) ∧ (xs ≠ [] → ∀ p, H p = none → Q (.ref p) (upd H p (.lst (a0 ++ yss.flatten))))
theorem totL_flat (a : List Value) (vss : List (List Value)) : ∀ n, n ≤ vss.length → totL a (fun i => vss.getD i []) n = a ++ (vss.take n).flatten
  | 0, _ => by simp [totL]
  | n + 1, h => by
    have hn : n < vss.length := by omega
    rw [totL, totL_flat a vss n (by omega), List.append_assoc]
    congr 1
    have e : vss.take (n + 1) = vss.take n ++ [vss[n]] := by rw [List.take_add_one, List.getElem?_eq_getElem hn]; rfl
    rw [e, List.getD_eq_getElem?_getD, List.getElem?_eq_getElem hn, List.flatten_append, List.flatten_cons, List.flatten_nil, List.append_nil]
    rfl
theorem vals_flat : ∀ {yss : List (List V)} {vss : List (List Value)}, Paired Vals yss vss → Vals yss.flatten vss.flatten
  | _, _, .nil => .nil
  | _, _, .cons h t => by simpa using Vals.append h (vals_flat t)
theorem call_sum2 {X : Cx} (hc : X.calm = true) : CallR X (.builtin "sum") (rSum2 X.K) := by
  intro pins s σ H vs us Q I r h
  obtain ⟨l, st, xs, yss, a0, rfl, hl, hst, hp, hz, q0, q1⟩ := h
  obtain ⟨u1, u2, rfl, r1, r2⟩ := vals2 r
  cases r1; cases r2
  obtain ⟨its, rv, pl, hz1⟩ := I.list hl
  obtain ⟨av, ra, pa, hz2⟩ := I.list hst
  -- the parts as values
  have parts : ∃ vss : List (List Value), Paired Vals yss vss ∧ vss.length = its.length ∧ ∀ (i : Nat) (v : Value), its[i]? = some v → ∃ a, v = .ref a ∧ PlainL s.heap a (vss.getD i []).toArray := by
    clear hz q0 q1 pl hl hz1 hz2
    induction hp generalizing its with
    | nil => cases rv; exact ⟨[], .nil, rfl, fun i v e => by simp at e⟩
    | @cons x ys xs yss h t ih =>
      cases rv with
      | @cons _ v _ its rx rv =>
        obtain ⟨vss, h1, h2, h3⟩ := ih its rv
        obtain ⟨a, rfl, ha⟩ := h
        cases rx
        obtain ⟨zs, rz, pz, _⟩ := I.list ha
        refine ⟨zs :: vss, .cons rz h1, by simp [h2], fun i v e => ?_⟩
        cases i with
        | zero => simp at e; subst e; exact ⟨a, rfl, by simpa using pz⟩
        | succ i => simpa using h3 i v (by simpa using e)
  obtain ⟨vss, pv, hlen, hv⟩ := parts
  have htot : totL av (fun i => vss.getD i []) its.toArray.size = av ++ vss.flatten := by
    rw [totL_flat _ _ _ (by simp [hlen]), List.size_toArray, ← hlen, List.take_length]
  have vt : Vals (a0 ++ yss.flatten) (av ++ vss.flatten) := ra.append (vals_flat pv)
  refine sum_lists (p := fun i => vss.getD i []) (I.ok.hd hc) pl.isList pa (fun i v e => hv i v (by simpa using e)) (by
      rw [htot, ← vt.length]
      by_cases hx : xs = []
      · subst hx; cases hp; simpa using hz2
      · exact hz hx) (fun hz0 h' tk kp => ?_) (fun hz0 h' tk t kp ht hn => ?_)
  · have : xs = [] := by
      have := rv.length
      rw [List.size_toArray] at hz0
      exact List.length_eq_zero_iff.mp (by omega)
    exact ⟨.ref st, H, I.kept kp, rfl, q0 this⟩
  · have hx : xs ≠ [] := fun z => by
      have := rv.length
      rw [z] at this
      rw [List.size_toArray] at hz0
      simp at this; omega
    obtain ⟨n, hn⟩ := hn
    rw [htot] at hn
    exact ⟨.ref t, _, I.laid (t' := tk) (o := .lst (a0 ++ yss.flatten)) kp ht ⟨hz hx, _, n, vt, hn⟩, rfl, q1 hx t (I.hok.fresh ht)⟩
theorem lists_rep : ∀ {vs : List Va} {xs : List V} {yss : List (List Va)}, Fit K m O H → Reps K m H vs xs → listsIn O vs = some yss → ∃ zss, Paired (fun x ys => ∃ a, x = V.ref a ∧ SqL K H a ys) xs zss ∧ Reps K m H yss.flatten zss.flatten
  | [], _, _, f, h, e => by cases e; cases h; exact ⟨[], .nil, .nil⟩
  | v :: vs, _, yss, f, h, e => by
    cases h with
    | cons h r =>
      unfold listsIn at e
      split at e
      · rename_i p ps hp hps
        cases e
        obtain ⟨zss, h2, h3⟩ := lists_rep f r hps
        obtain ⟨a, zs, rfl, h4, h5⟩ := rep_L f hp h
        exact ⟨zs :: zss, .cons ⟨a, rfl, h4.l⟩ h2, by simpa using h5.append h3⟩
      · cases e
theorem sem_sum2 : ∀ m O H xs us w Q, Fit K m O H → Reps K m H xs us → sum2V O xs = some w → (∀ m' H' z, Ext m H m' H' → Fit K m' O H' → Rep K m' H' w z ∨ Raw K H m' H' w z → Q z H') → rSum2 K us H Q := by
  intro m O H xs us w Q f r e k
  unfold sum2V at e
  split at e
  · rename_i v st
    cases r with
    | cons r1 rr =>
      cases rr with
      | cons r2 rr =>
        cases rr
        split at e
        · rename_i a h1 h2
          cases e
          obtain ⟨b, ys, rfl, h3, rs⟩ := rep_L f h1 r1
          cases rs
          have r2' := r2
          obtain ⟨c, zs, rfl, h4, rz⟩ := rep_L f h2 r2
          exact ⟨b, c, [], [], zs, rfl, h3.l, h4.l, .nil, fun z => absurd rfl z, fun _ => k m H _ (Ext.refl _ _) f (Or.inl r2'), fun z => absurd rfl z⟩
        · rename_i vs a hne h1 h2
          split at e
          · rename_i yss h3
            split at e
            · rename_i hz
              cases e
              obtain ⟨b, ys, rfl, h4, rs⟩ := rep_L f h1 r1
              obtain ⟨c, zs, rfl, h5, rz⟩ := rep_L f h2 r2
              obtain ⟨zss, h6, h7⟩ := lists_rep f rs h3
              have rt := rz.append h7
              refine ⟨b, c, ys, zss, zs, rfl, h4.l, h5.l, h6, fun _ => by rw [← rt.length]; exact hz, fun z => ?_, fun _ p np => ?_⟩
              · subst z; cases rs
                exact (hne rfl).elim
              · obtain ⟨g1, g2, g3⟩ := Raw.new f np rt
                exact k m _ _ g1 g2 (Or.inr g3)
            · cases e
          · cases e
        · cases e
  · cases e
end
end TV
end
-- VC
section
set_option Elab.async false
set_option linter.all false
set_option maxRecDepth 100000
set_option maxHeartbeats 4000000
/-! VC: sorted, dict, sum, max, min, repr, int; chains; displays of dicts. -/
namespace TV
open PySem L2
open TB (SqF NewT Ctx FCtx GK lk pt RelKV tOrE tOrS)
open PySem.W (EachIs)
section
variable {K : PySem.W.Frag} {m : List Addr} {H : Hp} {O : So}
/-! sorted -/
def rSortA (K : PySem.W.Frag) : List V → Hp → VK → Prop := fun us H Q => ∃ l xs vs m, us = [.ref l] ∧ SqL K H l xs ∧ Reps K m H vs xs ∧ plAll 50 vs = true ∧ alikeB vs = true ∧ sortB vs = true ∧ vs.length ≤ sizeLine ∧
  ∀ ys, Reps K m H (vs.mergeSort leD) ys → ∀ p, H p = none → Q (.ref p) (upd H p (.lst ys))
theorem each_of {s : Shared} {X : Cx} {pins : List (Addr × Obj)} {σ : L2.St} (I : Inv X pins σ H s) : ∀ {vs : List Va} {xs : List V} {its : List Value}, Reps X.K m H vs xs → Vals xs its → plAll 50 vs = true → EachIs (fun v b => ∃ x, RelV x v ∧ Rep X.K m H b x) its vs ∧ EachIs (fun v b => ∃ as, Reads s.heap v (toD b) as) its vs
  | [], _, _, r, rv, _ => by cases r; cases rv; exact ⟨.nil, .nil⟩
  | v :: vs, _, _, r, rv, p => by
    rw [plAll, Bool.and_eq_true] at p
    cases r with
    | cons r rr =>
      cases rv with
      | cons h rv =>
        obtain ⟨h1, h2⟩ := each_of I rr rv p.2
        exact ⟨.cons ⟨_, h, r⟩ h1, .cons (Dp.reads I _ _ _ (rep_dp r p.1) h) h2⟩
theorem of_each : ∀ {bs : List Va} {out : List Value}, EachIs (fun v b => ∃ x, RelV x v ∧ Rep K m H b x) out bs → ∃ ys, Vals ys out ∧ Reps K m H bs ys
  | [], _, h => by cases h; exact ⟨[], .nil, .nil⟩
  | b :: bs, _, h => by
    cases h with
    | cons h t =>
      obtain ⟨x, h1, h2⟩ := h
      obtain ⟨ys, h3, h4⟩ := of_each t
      exact ⟨x :: ys, .cons h1 h3, .cons h2 h4⟩
theorem alike_ok {vs : List Va} (h : alikeB vs = true) : PySem.W.AllAlike (vs.map toD) := by
  intro d hd d' hd'
  obtain ⟨x, hx, rfl⟩ := List.mem_map.mp hd
  obtain ⟨y, hy, rfl⟩ := List.mem_map.mp hd'
  unfold alikeB at h
  rw [List.all_eq_true] at h
  have := h x hx
  rw [List.all_eq_true] at this
  exact this y hy
theorem sort_ok {vs : List Va} (h : sortB vs = true) : PySem.W.Sortable (vs.map toD) := by
  unfold sortB at h
  rw [Bool.or_eq_true, List.all_eq_true, List.all_eq_true] at h
  rcases h with h | h
  · refine Or.inl fun d hd => ?_
    obtain ⟨x, hx, rfl⟩ := List.mem_map.mp hd
    have := h x hx
    split at this
    · rename_i v vs
      exact ⟨toD v, toDs vs, by simp [toD, toDs]⟩
    · cases this
  · refine Or.inr fun d hd => ?_
    obtain ⟨x, hx, rfl⟩ := List.mem_map.mp hd
    have := h x hx
    split at this
    · simp [toD]
    · simp [toD]
    · simp [toD]
    · cases this
theorem leD_eq : leD = PySem.W.dataLe false toD := rfl
theorem call_sortA {X : Cx} (hu : X.A.units + 64 < cLine) : CallR X (.builtin "sorted") (rSortA X.K) := by
  intro pins s σ H us ws Q I r h
  obtain ⟨l, xs, vs, m, rfl, hl, rs, pl, al, so, hz, q⟩ := h
  obtain ⟨u, rfl, rx⟩ := vals1 r
  cases rx
  obtain ⟨its, rv, pL, _⟩ := I.list hl
  obtain ⟨e1, e2⟩ := each_of I rs rv pl
  refine PySem.W.sorted_data pL.isList e1 e2 (alike_ok al) (sort_ok so) hz (fun b hb => ?_) fun out ho e3 => ?_
  · have hp : TV.pl 50 b = true := by
      rw [plAll_eq, List.all_eq_true] at pl
      exact pl b hb
    have := (pl_plain b 50 hp).2
    omega
  · rw [← leD_eq] at e3
    obtain ⟨ys, h1, h2⟩ := of_each e3
    obtain ⟨c, hc⟩ := PyProof.Rows.sortedAll_at s.heap its out.toArray
    have hlen : ys.length ≤ sizeLine := by rw [h1.length, ho]; exact hz
    have hn := I.hok.fresh (Nat.le_succ s.heap.objs.size)
    exact ⟨.ref _, _, I.laid (t' := s.toks) (o := .lst ys) (fun b o e => PyProof.Rows.sortedAll_old e) (Nat.le_succ _) ⟨hlen, out, c, h1, hc⟩, rfl, q ys h2 _ hn⟩
/-! sorted(d) -/
def rSortD : List V → Hp → VK → Prop := fun xs H Q => ∃ (a : Addr) (kvs : List (Key × V)) (ks : List Str), xs = [.ref a] ∧ Rd H a (.dK kvs) ∧ kvs.map (·.1) = ks.map Sum.inr ∧ ks.length < 64 ∧
    ∀ ys p, ys.Perm ks → PyProof.Rows.sortedS ys = true → H p = none → Q (.ref p) (upd H p (.lst (ys.map V.str)))
theorem leS_str (x y : Str) : leD (.str x) (.str y) = !ltS y x := by
  show (!PySem.W.dataLt (.str y) (.str x)) = _
  rw [PySem.W.dataLt_str]
  rfl
theorem leS_tot (l : List Va) : (l.mergeSort leD).Pairwise (fun a b => leD a b = true) := by
  rw [leD_eq]
  exact PySem.W.sort_pairwise (PySem.W.sortLe_total _ false _) l
theorem leS_iff (x y : Str) : leD (.str x) (.str y) = true ↔ x.cps.toList ≤ y.cps.toList := by
  rw [leS_str]
  simp only [ltS, Bool.not_eq_true', decide_eq_false_iff_not]
  exact List.not_lt
theorem rising_le : ∀ (l : List Str) (p : Str), PyProof.Rows.risingS p l = true → (p :: l).Pairwise fun x y => x.cps.toList ≤ y.cps.toList
  | [], p, _ => by simp
  | x :: l, p, h => by
    simp only [PyProof.Rows.risingS, PyProof.Rows.ltCps_eq, Bool.and_eq_true, Bool.not_eq_true', decide_eq_false_iff_not] at h
    have hx : p.cps.toList ≤ x.cps.toList := List.not_lt.mp h.1
    have ih := rising_le l x h.2
    refine List.pairwise_cons.mpr ⟨fun y hy => ?_, ih⟩
    rcases List.mem_cons.mp hy with rfl | hy
    · exact hx
    · exact List.le_trans hx ((List.pairwise_cons.mp ih).1 y hy)
theorem sortedS_le {l : List Str} (h : PyProof.Rows.sortedS l = true) : l.Pairwise fun x y => x.cps.toList ≤ y.cps.toList := by
  cases l with
  | nil => simp
  | cons x l => exact rising_le l x h
theorem sorted_uniq {ys ks : List Str} (hp : ys.Perm ks) (hs : PyProof.Rows.sortedS ys = true) : (ks.map Va.str).mergeSort leD = ys.map Va.str := by
  have h1 := leS_tot (ks.map Va.str)
  have e : (ks.map Va.str).mergeSort leD = (ks.mergeSort fun x y => leD (.str x) (.str y)).map Va.str := (List.map_mergeSort (r := fun x y => leD (.str x) (.str y)) (s := leD) (f := Va.str) fun _ _ _ _ => rfl).symm
  rw [e] at h1 ⊢
  rw [List.pairwise_map] at h1
  congr 1
  refine List.Perm.eq_of_pairwise (le := fun x y : Str => x.cps.toList ≤ y.cps.toList) (fun a b _ _ h h' => PySem.W.str_of_cps (List.le_antisymm h h')) (h1.imp fun {a b} h => (leS_iff a b).mp h) (sortedS_le hs) ((List.mergeSort_perm ..).trans hp.symm)
theorem keys_strKs : ∀ {ds : List (Key × Va)} {kvs : List (Key × V)} {ks : List Str}, RepKV K m H ds kvs → strKs ds = some ks → kvs.map (·.1) = ks.map Sum.inr
  | [], _, _, r, e => by cases r; cases e; rfl
  | (k, v) :: ds, _, ks, r, e => by
    cases r with
    | cons h r =>
      cases k with
      | inl i => cases e
      | inr x =>
        simp only [strKs] at e
        cases hk : strKs ds with
        | none => rw [hk] at e; cases e
        | some l =>
          rw [hk] at e; cases e
          simp [keys_strKs r hk]
theorem reps_strs : ∀ l : List Str, Reps K m H (l.map Va.str) (l.map V.str)
  | [] => .nil
  | x :: l => .cons (.str x) (reps_strs l)
theorem sem_sorted : ∀ m O H xs us w Q, Fit K m O H → Reps K m H xs us → sortedV O xs = some w → (∀ m' H' z, Ext m H m' H' → Fit K m' O H' → Raw K H m' H' w z → Q z H') → rSortA K us H Q ∨ rSortD us H Q := by
  intro m O H xs us w Q f r e k
  unfold sortedV at e
  split at e
  · rename_i v
    split at e
    · rename_i vs hv
      split at e
      · rename_i hz
        obtain ⟨z1, z2, z3, z4⟩ := hz
        cases e
        cases r with
        | cons r rr =>
          cases rr
          obtain ⟨a, ys, rfl, h, rs⟩ := rep_L f hv r
          refine Or.inl ⟨a, ys, vs, m, rfl, h.l, rs, z1, z2, z3, z4, fun zs rz p np => ?_⟩
          obtain ⟨h1, h2, h3⟩ := Raw.new f np rz
          exact k m _ _ h1 h2 h3
      · cases e
    · split at e
      · rename_i kvs hd
        split at e
        · rename_i ks hk
          split at e
          · rename_i hz
            cases e
            cases r with
            | cons r rr =>
              cases rr
              obtain ⟨a, kv, rfl, h, rs⟩ := rep_D f hd r
              refine Or.inr ⟨a, kv, ks, rfl, h, keys_strKs rs hk, hz, fun ys p hp hs np => ?_⟩
              obtain ⟨h1, h2, h3⟩ := Raw.new f np (reps_strs ys)
              rw [sorted_uniq hp hs] at k
              exact k m _ _ h1 h2 h3
          · cases e
        · cases e
      · cases e
  · cases e
def intV (_ : So) : List Va → Option Va
  | [.int i] => some (.int i)
  | [.bool b] => some (.int (if b then 1 else 0))
  | _ => none
theorem sem_int : Sem1 K intV (fun xs H Q => (∃ i, xs = [.int i] ∧ Q (.int i) H) ∨ ∃ k, xs = [.bl k] ∧ Q (.int (if k then 1 else 0)) H) := by
  intro m O H xs us w Q f r e k
  unfold intV at e
  split at e
  · cases e
    cases r with
    | cons r rr =>
      cases rr; cases r
      exact Or.inl ⟨_, rfl, k m H _ (Ext.refl _ _) f (.int _)⟩
  · cases e
    cases r with
    | cons r rr =>
      cases rr; cases r
      exact Or.inr ⟨_, rfl, k m H _ (Ext.refl _ _) f (.int _)⟩
  · cases e
/-! repr -/
/-! displays of dicts -/
/-- == chains -/
theorem t_chainT {f g : So → Va → Va → Option Va} {r r' : R2} {ma mb mc : Ex} (hr : Sem2 K f r) (hr' : Sem2 K g r') : ∀ σ H Q, TTm K (mB (mChain f g ma mb mc)) σ H Q → tTest (tChain r r' (TEm K ma) (TEm K mb) (TEm K mc)) σ H Q := t_test (t_chain hr hr')
end
section
variable {X : Cx} {P : Program} {w : World} {K : PySem.W.Frag} {mg : Str → Option Value} {base : Heap} {N : List Str} {sc : Scope} {lv : Nat} {a b c e e2 : Expr} {pos p : Pos} {mx : Ax} {ma mb mc : Ex}
theorem d_sortedF (C : Ctx X P w K mg base N sc lv) (hm : mg "sorted" = none) (ha : PA X [e] (TAm K mx)) (hg : GK sc "sorted" := by rfl) (h1 : starEach [e] X.env = (false, eval e X.env) :: starEach [] X.env := by rfl) (h2 : (backTo pos (starEach [] X.env)).any (·.1) = false := by rfl) : PE X (.Call (.Name "sorted" p) [e] [] pos) (TFm K (mCB sortedV mx)) := by
  have := C.hK; subst this
  exact (pe_callB ((call_sortA C.hu).or (call_sortedD C.calm)) (C.gl hg) (by rw [C.hmg]; exact hm) (by decide +kernel) ha (by decide) (by decide) h1 h2).weak (t_cbF sem_sorted)
theorem d_dictF (C : Ctx X P w K mg base N sc lv) (hm : mg "dict" = none) (ha : PA X [e] (TAm K mx)) (hg : GK sc "dict" := by rfl) (h1 : starEach [e] X.env = (false, eval e X.env) :: starEach [] X.env := by rfl) (h2 : (backTo pos (starEach [] X.env)).any (·.1) = false := by rfl) : PE X (.Call (.Name "dict" p) [e] [] pos) (TFm K (mCB dictV mx)) := by
  have := C.hK; subst this
  exact (pe_callTy ((call_dictP C.calm).or (call_dictT C.calm)) (C.gl hg) (by rw [C.hmg]; exact hm) (by decide +kernel) ha (by decide) (by decide) h1 h2).weak (t_cbF sem_dict)
theorem t_cbR {f : So → List Va → Option Va} {r : List V → Hp → VK → Prop} {ma : Ax} (hr : ∀ m O H xs us w Q, Fit K m O H → Reps K m H xs us → f O xs = some w → (∀ m' H' z, Ext m H m' H' → Fit K m' O H' → Rep K m' H' w z ∨ Raw K H m' H' w z → Q z H') → r us H Q) :
    ∀ σ H Q, TRm K (mCB f ma) σ H Q → tCB r (TAm K ma) σ H Q := by
  rintro σ H Q ⟨m, Γ, O, w, O', ft, s, e, k⟩
  unfold mCB at e
  split at e
  · rename_i x O1 h1
    split at e
    · rename_i v h3
      obtain ⟨rfl, rfl⟩ := Prod.mk.inj (Option.some.inj e)
      exact ⟨m, Γ, O, x, O1, ft, s, h1, fun m1 H1 u1 x1 f1 r1 => hr m1 O1 H1 x u1 _ Q f1 r1 h3 fun m3 H3 z x3 f3 r3 => k m3 H3 z (x1.trans x3) f3 (r3.imp id fun q => q.since x1 f1)⟩
    · cases e
  · cases e
theorem d_sum2 (C : Ctx X P w K mg base N sc lv) (hm : mg "sum" = none) (ha : PA X [e, e2] (TAm K mx)) (hg : GK sc "sum" := by rfl) (h1 : starEach [e, e2] X.env = (false, eval e X.env) :: starEach [e2] X.env := by rfl) (h2 : (backTo pos (starEach [e2] X.env)).any (·.1) = false := by rfl) : PE X (.Call (.Name "sum" p) [e, e2] [] pos) (TEm K (mCB sum2V mx)) := by
  have := C.hK; subst this
  exact d_lk ((pe_callB (call_sum2 C.calm) (C.gl hg) (by rw [C.hmg]; exact hm) (by decide +kernel) ha (by decide) (by decide) h1 h2).weak (t_cbR sem_sum2))
theorem d_intC (C : Ctx X P w K mg base N sc lv) (hm : mg "int" = none) (ha : PA X [e] (TAm K mx)) (hg : GK sc "int" := by rfl) (h1 : starEach [e] X.env = (false, eval e X.env) :: starEach [] X.env := by rfl) (h2 : (backTo pos (starEach [] X.env)).any (·.1) = false := by rfl) : PE X (.Call (.Name "int" p) [e] [] pos) (TEm K (mCB intV mx)) := by
  have := C.hK; subst this
  exact (pe_callTy call_int1 (C.gl hg) (by rw [C.hmg]; exact hm) (by decide +kernel) ha (by decide) (by decide) h1 h2).weak (t_cb sem_int)
theorem dt_chain {o1 o2 : CmpOp} {f g : So → Va → Va → Option Va} {r r' : R2} (ho : OpR X (compareOp o1) r) (ho' : OpR X (compareOp o2) r') (hr : Sem2 K f r) (hr' : Sem2 K g r') (ha : PE X a (TEm K ma)) (hb : PE X b (TEm K mb)) (hc : PE X c (TEm K mc)) (hm : lastMarks [o1, o2] [b, c] = false := by with_unfolding_all rfl) : PT X (.Compare a [o1, o2] [b, c] pos) (TTm K (mB (mChain f g ma mb mc))) := (pt_chain ho ho' ha hb hc hm).weak (t_chainT hr hr')
end
end TV
end
-- VD
section
set_option Elab.async false
set_option linter.all false
set_option maxRecDepth 100000
set_option maxHeartbeats 4000000
/-! VD: dict comprehensions with two fors. -/
namespace TV
open PySem L2 PySem.Spec PyProof.Rows
section
variable {prog : Program} {w : World} {A : Around} {R : Result → Shared → Prop} {s : Shared} {kx vx ta ia tb ib : Expr} {fa fb : List Expr} {scope : Scope} {pos : Pos} {it : Value} {D : Addr} {env : Env}
abbrev dc2 (kx vx ta ia tb ib : Expr) (fa fb : List Expr) (scope : Scope) (pos : Pos) : Expr := .DictComp kx vx [⟨ta, ia, fa, 0⟩, ⟨tb, ib, fb, 0⟩] scope pos
/-- a clause's head: the item is stored, the tests are made -/
def Hd (prog : Program) (w : World) (A : Around) (E : Value → Shared → Prop) (tg : Expr) (ifs : List Expr) (it v : Value) (env : Env) (k kf : Shared → Prop) (s : Shared) : Prop :=
  wpAny (model prog w) A (letOwnedTupleGo tg it v) (fun _ a => wpAny (model prog w) A (assign tg env v) (fun _ b => wpAny (model prog w) A (forIn ifs true fun c r => if r = true then do let ok ← isTrue c env (eval c env); pure (ForInStep.yield ok) else pure (ForInStep.yield r)) (fun ok c => if ok = true then k c else kf c) E b) E a) E s
abbrev Nt (prog : Program) (w : World) (A : Around) (env : Env) (R : Result → Shared → Prop) : Value → Shared → Prop := notedBy (model prog w) A env fun e s' => R (.error e) s'
theorem turnA : compTurn (dc2 kx vx ta ia tb ib fa fb scope pos) 0 it (.ref D) env = (do
    standAt ia.pos
    match ← pyNext it with
    | none => pure (.done .next)
    | some v =>
      letOwnedTupleGo ta it v; assign ta env v
      let mut good := true
      for c in fa do if good then good ← isTrue c env (eval c env)
      if good then
        let x ← eval ib env; standAt ib.pos; let x ← foldedSetIterable ib env x
        let _ ← runOwn (.compStart (dc2 kx vx ta ia tb ib fa fb scope pos) 1 (← holding [x] (pyIter x)) (.ref D) env) env
      again (.compLoop (dc2 kx vx ta ia tb ib fa fb scope pos) 0 it (.ref D) env)) := by rfl
theorem turnB : compTurn (dc2 kx vx ta ia tb ib fa fb scope pos) 1 it (.ref D) env = (do
    standAt ib.pos
    match ← pyNext it with
    | none => pure (.done .next)
    | some v =>
      letOwnedTupleGo tb it v; assign tb env v
      let mut good := true
      for c in fb do if good then good ← isTrue c env (eval c env)
      if good then
        (do let a ← eval kx env; let b ← holding [a] (eval vx env); standAt { kx.pos with endLine := vx.pos.endLine, endCol := vx.pos.endCol }; holding [a, b] (dictSet D a b))
      again (.compLoop (dc2 kx vx ta ia tb ib fa fb scope pos) 1 it (.ref D) env)) := by rfl
theorem loopA (hs : ∀ x, foldedSetIterable ib env x = pure x) (J : Nat → Shared → Prop)
    (step : ∀ n s, J n s → wpAny (model prog w) A (pyNext it) (fun r a => match r with
      | none => R (.ok .next) a
      | some v => Hd prog w A (Nt prog w A env R) ta fa it v env (fun b => wpAny (model prog w) A (eval ib env) (fun x c => wpAny (model prog w) A (pyIter x) (fun i2 d =>
          codeAny (model prog w) A (.compStart (dc2 kx vx ta ia tb ib fa fb scope pos) 1 i2 (.ref D) env) (fun r e => match r with
            | .ok _ => ∃ m, m < n ∧ J m e
            | .error _ => False) d) (Nt prog w A env R) c) (Nt prog w A env R) b) (fun b => ∃ m, m < n ∧ J m b) a) (Nt prog w A env R) s) (n : Nat) (h : J n s) :
    codeAny (model prog w) A (.compLoop (dc2 kx vx ta ia tb ib fa fb scope pos) 0 it (.ref D) env) R s := by
  refine codeAny_loop rfl J (fun n s hJ => ?_) n h
  show wpAny _ A ((compTurn (dc2 kx vx ta ia tb ib fa fb scope pos) 0 it (.ref D) env).onRaise (fun x => do noteFrame x env; theTreesLotGoes x)) _ _ s
  refine wpAny_noted ?_
  rw [turnA]
  refine wpAny_bind (wpAny_standAt (wpAny_bind (wpAny_mono (step n s hJ) (fun r a ha => ?_) fun _ _ z => z)))
  cases r with
  | none => exact wpAny_pure ha
  | some v =>
    refine wpAny_bind (wpAny_mono ha (fun _ b hb => wpAny_bind (wpAny_mono hb (fun _ c hc => wpAny_bind (wpAny_mono hc (fun good d hd => ?_) fun _ _ z => z)) fun _ _ z => z)) fun _ _ z => z)
    cases good with
    | false => exact wpAny_pure ⟨rfl, hd⟩
    | true =>
      refine wpAny_bind (wpAny_mono hd (fun x e he => wpAny_bind (wpAny_standAt (wpAny_bind (wpAny_of_eq (hs x) (wpAny_bind (wpAny_holding (wpAny_mono he (fun i2 f hf => ?_) fun _ _ z => z))))))) fun _ _ z => z)
      refine wpAny_bind (wpAny_runOwn ?_)
      rw [Around.mark_none]
      refine codeAny_mono hf fun r g hr => ?_
      cases r with
      | error e => exact hr.elim
      | ok f => first | exact wpAny_pure ⟨rfl, hr⟩ | exact wpAny_bind (wpAny_pure (wpAny_pure ⟨rfl, hr⟩))
theorem loopB (J : Nat → Shared → Prop)
    (step : ∀ n s, J n s → wpAny (model prog w) A (pyNext it) (fun r a => match r with
      | none => R (.ok .next) a
      | some v => Hd prog w A (Nt prog w A env R) tb fb it v env (fun b => wpAny (model prog w) A (eval kx env) (fun x c => wpAny (model prog w) A (eval vx env) (fun y d =>
          wpAny (model prog w) A (dictSet D x y) (fun _ e => ∃ m, m < n ∧ J m e) (Nt prog w A env R) d) (Nt prog w A env R) c) (Nt prog w A env R) b) (fun b => ∃ m, m < n ∧ J m b) a) (Nt prog w A env R) s) (n : Nat) (h : J n s) :
    codeAny (model prog w) A (.compLoop (dc2 kx vx ta ia tb ib fa fb scope pos) 1 it (.ref D) env) R s := by
  refine codeAny_loop rfl J (fun n s hJ => ?_) n h
  show wpAny _ A ((compTurn (dc2 kx vx ta ia tb ib fa fb scope pos) 1 it (.ref D) env).onRaise (fun x => do noteFrame x env; theTreesLotGoes x)) _ _ s
  refine wpAny_noted ?_
  rw [turnB]
  refine wpAny_bind (wpAny_standAt (wpAny_bind (wpAny_mono (step n s hJ) (fun r a ha => ?_) fun _ _ z => z)))
  cases r with
  | none => exact wpAny_pure ha
  | some v =>
    refine wpAny_bind (wpAny_mono ha (fun _ b hb => wpAny_bind (wpAny_mono hb (fun _ c hc => wpAny_bind (wpAny_mono hc (fun good d hd => ?_) fun _ _ z => z)) fun _ _ z => z)) fun _ _ z => z)
    cases good with
    | false => exact wpAny_pure ⟨rfl, hd⟩
    | true => exact wpAny_bind (wpAny_bind (wpAny_mono hd (fun x e he => wpAny_bind (wpAny_holding (wpAny_mono he (fun y f hf => wpAny_bind (wpAny_standAt (wpAny_holding (wpAny_mono hf (fun _ g hg => wpAny_pure ⟨rfl, hg⟩) fun _ _ z => z)))) fun _ _ z => z))) fun _ _ z => z))
theorem startB (h0 : codeAny (model prog w) A (.compLoop (dc2 kx vx ta ia tb ib fa fb scope pos) 1 it (.ref D) env) R s)
    (h : wpAny (model prog w) A (pyIter it) (fun j a => codeAny (model prog w) A (.compLoop (dc2 kx vx ta ia tb ib fa fb scope pos) 1 j (.ref D) env) R a) (Nt prog w A env R) s) :
    codeAny (model prog w) A (.compStart (dc2 kx vx ta ia tb ib fa fb scope pos) 1 it (.ref D) env) R s := by
  refine codeAny_of_tree (?_ : wpAny _ A ((compStart (dc2 kx vx ta ia tb ib fa fb scope pos) 1 it (.ref D) env).onRaise (fun x => do noteFrame x env; standAt theWindowsPlace)) _ _ s)
  refine wpAny_notedAt ?_
  unfold compStart
  show wpAny _ A (ask >>= _) _ _ s
  refine wpAny_bind (wpAny_askSetting (wpAny_ite ?_))
  split
  · first | exact wpAny_bind (wpAny_pure (wpAny_pure ⟨rfl, h0⟩)) | exact wpAny_pure ⟨rfl, h0⟩
  · refine wpAny_bind (wpAny_rule ?_)
    first
      | exact wpAny_bind (wpAny_standAt (wpAny_bind (wpAny_mono h (fun j a ha => wpAny_pure ⟨rfl, ha⟩) fun _ _ z => z)))
      | (show wpAny _ A (standAt ib.pos >>= _) _ _ s; exact wpAny_bind (wpAny_standAt (wpAny_bind (wpAny_mono h (fun j a ha => wpAny_pure ⟨rfl, ha⟩) fun _ _ z => z))))
end
section
variable {X : Cx}
/-- {k: v for .. in .. if .. for .. in .. if ..} -/
def tDc2 (wi : TI) (g : TG) (tt : TT) (wi1 : TI) (g1 : TG) (tt1 : TT) (tk tv : TE) (vs vs1 : List Nat) : TE := fun σ H Q => wi σ H fun J H1 => ∀ D, H1 D = none → ∃ W : Nat → Nat → Hp → Prop, (∃ m, W 0 m (upd H1 D (.dK []))) ∧ ∀ i m H, W i m H →
  (J.stop i H ∧ Q (.ref D) H) ∨ (J.go i H ∧ ∃ Nx : Hp → Prop, (∀ H', Nx H' → ∃ m', m' < m ∧ W (i + 1) m' H') ∧ ∀ x H', J.yld i H x H' → g x (wipe σ vs) H' fun σ2 H2 => wipe σ2 vs = wipe σ vs ∧ tt σ2 H2 fun b H3 =>
    if b = true then wi1 σ2 H3 fun J1 H4 => ∃ W1 : Nat → Nat → Hp → Prop, (∃ m, W1 0 m H4) ∧ ∀ j k H, W1 j k H →
      (J1.stop j H ∧ Nx H) ∨ (J1.go j H ∧ ∃ Nx1 : Hp → Prop, (∀ H', Nx1 H' → ∃ k', k' < k ∧ W1 (j + 1) k' H') ∧ ∀ x H', J1.yld j H x H' → g1 x (wipe σ2 vs1) H' fun σ3 H5 => wipe σ3 vs1 = wipe σ2 vs1 ∧ tt1 σ3 H5 fun b H6 =>
        if b = true then tk σ3 H6 fun y H7 => tv σ3 H7 fun z H8 => ∃ kvs k, y = kV k ∧ H8 D = some (.dK kvs) ∧ kvs.length < sizeLine ∧ Nx1 (upd H8 D (.dK (putK kvs k z))) else Nx1 H6)
    else Nx H3)
theorem dc2_run {pins : List (Addr × Obj)} {s : Shared} {σ : L2.St} {H : Hp} {Q : VK} {kx vx tg iter tg1 iter1 : Expr} {ifs ifs1 : List Expr} {scope : Scope} {own : List (Str × Nat)} {vs1 : List Nat} {pos pos' : Pos} {wi wi1 : TI} {g g1 : TG} {tt tt1 : TT} {tk tv : TE} {use : Option (Value → Sem Unit)} {Qf : Value → Shared → Prop}
    (calm : X.calm = true) (nod : X.N.Nodup) (I : Inv X pins σ H s) (hi : PI X tg iter wi) (ok : BlkOk X.N X.env.scope scope own) (sub : ∀ i ∈ vs1, i ∈ own.map (·.2))
    (B : ∀ (s : Shared) (H : Hp) (C : Addr) (cl : List (Str × Addr)) (fp : List Addr), (PG (X.blk s H scope (compEnvC scope cl C X.env) fp) tg g ∧ PTs (X.blk s H scope (compEnvC scope cl C X.env) fp) ifs tt ∧ PI (X.blk s H scope (compEnvC scope cl C X.env) fp) tg1 iter1 wi1 ∧ PG (X.blk s H scope (compEnvC scope cl C X.env) fp) tg1 g1 ∧
      PTs (X.blk s H scope (compEnvC scope cl C X.env) fp) ifs1 tt1 ∧ PE (X.blk s H scope (compEnvC scope cl C X.env) fp) kx tk ∧ PE (X.blk s H scope (compEnvC scope cl C X.env) fp) vx tv))
    (fold0 : ∀ x, foldedSetIterable iter X.env x = pure x) (fold1 : ∀ env x, foldedSetIterable iter1 env x = pure x) (h : tDc2 wi g tt wi1 g1 tt1 tk tv (own.map (·.2)) vs1 σ H Q)
    (close : ∀ D C s' m H', Inv X pins σ H' s' → Q (.ref D) H' → s'.heap.Ns C m → FpOk X pins H' C → compPost (model X.prog X.w) X.A X.xe use Qf (.ref D) C (.ok .next) s') :
    wpAny (model X.prog X.w) X.A (comprehension (dc2 kx vx tg iter tg1 iter1 ifs ifs1 scope pos) scope X.env pos' newDict false (eval iter X.env) use) Qf X.xe s := by
  have free : ∀ y ∈ scope.names, y.2 = .free → ∃ c, X.env.cells.lookup y.1 = some c := fun y hy e => (ok.free y hy e).elim (fun k => I.ok.has _ (.inl k)) (fun k => I.ok.has _ (.inr k))
  refine wpAny_comprehension_free (use := use) rfl fold0 (closure_ok free) ok.kind (fun y hy e => by rw [ok.uniq y hy, e]) (thn (hi.run pins s σ H _ I h) fun xv a hx => thn hx fun itv b hb => ?_)
  obtain ⟨it, fp, tn, J, Hb, rfl, Ib, T, stb, fb, q⟩ := hb
  refine wpAny_newObj_type (newEnv_comp ?_)
  generalize eD : b.heap.objs.size = D
  obtain ⟨W, ⟨m0, w0⟩, turn⟩ := q D (Ib.hok.fresh (Nat.le_of_eq eD))
  generalize ec : ({ b with heap := b.heap.push { cls := .type "dict", data := .dict #[] } } : Shared) = c
  have hpush : c.heap = b.heap.push { cls := .type "dict", data := .dict #[] } := by rw [← ec]
  have Ic : Inv X pins σ (upd Hb D (.dK [])) c := by
    rw [← ec]
    exact Ib.laid (t' := b.toks) (fun _ _ e => Heap.get?_push_of_some _ e) (Nat.le_of_eq eD) (by rw [← eD]; exact dk_empty b.heap Ib.big)
  have lt : ∀ x ∈ fp, x < b.heap.objs.size := fun x hx => let ⟨o, e, _⟩ := T.obj _ _ stb x hx; Heap.lt_size e
  have fc : ∀ x ∈ fp, FpOk X pins (upd Hb D (.dK [])) x ∧ x < c.heap.objs.size := fun x hx =>
    ⟨⟨by rw [upd_ne (by rw [← eD]; exact Nat.ne_of_lt (lt x hx))]; exact (fb x hx).1, (fb x hx).2⟩, by rw [hpush, Heap.size_push]; exact Nat.lt_succ_of_lt (lt x hx)⟩
  have stc : tn 0 c.heap := T.keep _ _ _ stb fun x _ o e => by rw [hpush]; exact Heap.get?_push_of_some _ e
  have Id := block_start Ic ok nod fc
  obtain ⟨pg, pt, pi1, pg1, pt1, pk, pv⟩ := B c (upd Hb D (.dK [])) c.heap.objs.size (cellsFrom (c.heap.objs.size + 1) scope.names (cloFrom X.env.cells scope.names [])) fp
  show codeAny _ _ (.compStart (dc2 kx vx tg iter tg1 iter1 ifs ifs1 scope pos) 0 (.ref it) (.ref D) (compEnvC scope (cellsFrom (c.heap.objs.size + 1) scope.names (cloFrom X.env.cells scope.names [])) c.heap.objs.size X.env)) (compPost (model X.prog X.w) X.A X.xe use Qf (.ref D) c.heap.objs.size) { c with heap := pushCells (c.heap.push { cls := .type "dict", data := .dict #[] }) scope.names }
  have nofp : ∀ x ∈ fp, (upd Hb D (.dK [])) x = none := fun x hx => (fc x hx).1.1
  generalize ee : compEnvC scope (cellsFrom (c.heap.objs.size + 1) scope.names (cloFrom X.env.cells scope.names [])) c.heap.objs.size X.env = ce at Id pg pt pi1 pg1 pt1 pk pv ⊢
  have eloc : ce.locals = c.heap.objs.size := by subst ee; rfl
  generalize eH : upd Hb D (.dK []) = Hc at Ic Id pg pt pi1 pg1 pt1 pk pv w0 nofp fc
  generalize ed : ({ c with heap := pushCells (c.heap.push { cls := .type "dict", data := .dict #[] }) scope.names } : Shared) = d at Id ⊢
  have std : tn 0 d.heap := T.keep _ _ _ stc fun x _ o e => by rw [← ed]; exact pushCells_keeps _ _ _ _ (Heap.get?_push_of_some _ e)
  have fpo : ∀ {σ' : L2.St} {H' : Hp} {s' : Shared}, Inv (X.blk c Hc scope ce fp) [] σ' H' s' → (∀ x ∈ fp, H' x = none) → ∀ x ∈ fp, FpOk (X.blk c Hc scope ce fp) [] H' x := fun {σ' H' s'} I' no x hx =>
    ⟨no x hx, (I'.ok.exf x hx).1, I'.ok.exfs x hx, .inl hx, fun y z e => (I'.ok.exf x hx).2 y z e, fun p hp => absurd (show p ∈ ([] : List (Addr × Obj)) ++ [] from hp) (by simp)⟩
  let Jn : Nat → Shared → Prop := fun n s' => ∃ i H', Inv (X.blk c Hc scope ce fp) [] (wipe σ (own.map (·.2))) H' s' ∧ tn i s'.heap ∧ (∀ x ∈ fp, H' x = none) ∧ W i n H'
  have run : codeAny (model X.prog X.w) X.A (.compLoop (dc2 kx vx tg iter tg1 iter1 ifs ifs1 scope pos) 0 (.ref it) (.ref D) ce) (compPost (model X.prog X.w) X.A X.xe use Qf (.ref D) c.heap.objs.size) d := by
    refine loopA (fold1 ce) Jn ?_ m0 ⟨0, Hc, Id, std, nofp, w0⟩
    rintro n e ⟨i, He, Ie, ste, ne, we⟩
    rcases turn i n He we with ⟨stop, qq⟩ | ⟨go, Nx, hNx, step⟩
    · refine thnF (T.done (X.blk c Hc scope ce fp) rfl rfl rfl calm i [] e _ He (fun _ _ => False) Ie (fpo Ie ne) ste stop) fun r f ⟨er, If⟩ => ?_
      subst er
      obtain ⟨mm, hn, _⟩ := If.loc
      have hn : f.heap.Ns ce.locals mm := hn
      have nl : He ce.locals = none := If.free
      rw [eloc] at hn nl
      exact close D c.heap.objs.size f mm He (Ic.call' (ch := fp) If.os If.base If.hok If.bare fun x hx => ⟨(fc x hx).1.2.2.2.1, (fc x hx).1.2.1, (fc x hx).1.2.2.2.2.1, (fc x hx).1.2.2.2.2.2⟩) qq hn (Ic.fpOk (Nat.le_refl _) nl)
    · refine thnF (T.item (X.blk c Hc scope ce fp) rfl rfl rfl calm i [] e _ He (fun _ _ => False) Ie (fpo Ie ne) ste go) fun r f ⟨u, er, hf⟩ => ?_
      subst er
      refine thnF hf fun _ f2 ⟨x, Hf, If, rf, yf, stf, nf⟩ => ?_
      refine thnF (pg.run _ f2 _ Hf x u _ (If.pinned (fpo If nf) (T.obj _ _ stf)) rf (step x Hf yf)) fun _ f3 ⟨σ3, H3, I3, hw3, q3⟩ => ?_
      refine thnF (pt.run _ f3 σ3 H3 _ I3 q3) fun b0 f4 ⟨H4, I4, q4⟩ => ?_
      have back : ∀ {σ9 : L2.St} {s' : Shared} {H' : Hp}, Inv (X.blk c Hc scope ce fp) ([] ++ pinsAt fp f2.heap) σ9 H' s' → (wipe σ (own.map (·.2))).length = σ9.length → (∀ (j : Nat) v, (wipe σ (own.map (·.2)))[j]? = some (some v) → σ9[j]? = some (some v)) → Nx H' → ∃ m, m < n ∧ Jn m s' := fun {σ9 s' H'} I' hl hk nx => by
        obtain ⟨m', hm, w'⟩ := hNx H' nx
        have pin : ∀ x ∈ fp, ∀ o, f2.heap.get? x = some o → s'.heap.get? x = some o ∧ H' x = none := fun x hx o e =>
          let z := I'.pin (x, o) (List.mem_append_right _ (List.mem_append_right _ (mem_pinsAt hx e)))
          ⟨z.1, z.2.1⟩
        exact ⟨m', hm, i + 1, H', (I'.unpinned (pins := [])).weak hl hk, T.keep _ _ _ stf fun x hx o e => (pin x hx o e).1, fun x hx => let ⟨o, e, _⟩ := T.obj _ _ stf x hx; (pin x hx o e).2, w'⟩
      have l3 : (wipe σ (own.map (·.2))).length = σ3.length := by rw [← hw3, wipe_length]
      have k3 : ∀ (j : Nat) v, (wipe σ (own.map (·.2)))[j]? = some (some v) → σ3[j]? = some (some v) := fun j v e => by rw [← hw3] at e; exact (wipe_some e).1
      have k3' : ∀ (j : Nat) v, (wipe σ (own.map (·.2)))[j]? = some (some v) → (wipe σ3 vs1)[j]? = some (some v) := fun j v e => by
        rw [← hw3] at e
        rw [wipe_out fun z => (wipe_some e).2 (sub j z)]
        exact (wipe_some e).1
      cases b0 with
      | false => simp only [Bool.false_eq_true, if_false] at q4 ⊢; exact back I4 l3 k3 q4
      | true =>
        simp only [if_true] at q4 ⊢
        refine thnF (pi1.run _ f4 σ3 H4 _ I4 q4) fun xv f5 hx => thnF hx fun itv f6 h6 => ?_
        obtain ⟨it1, fp1, tn1, J1, H6, rfl, I6, T1, st6, fp6, W1, ⟨m1, w1⟩, turn1⟩ := h6
        have fpo1 : ∀ {H' : Hp}, (∀ x ∈ fp1, H' x = none) → ∀ x ∈ fp1, FpOk (X.blk c Hc scope ce fp) ([] ++ pinsAt fp f2.heap) H' x := fun no x hx => ⟨no x hx, (fp6 x hx).2⟩
        let Jm : Nat → Shared → Prop := fun k s' => ∃ j H', Inv (X.blk c Hc scope ce fp) ([] ++ pinsAt fp f2.heap) (wipe σ3 vs1) H' s' ∧ tn1 j s'.heap ∧ (∀ x ∈ fp1, H' x = none) ∧ W1 j k H'
        have inner : codeAny (model X.prog X.w) X.A (.compLoop (dc2 kx vx tg iter tg1 iter1 ifs ifs1 scope pos) 1 (.ref it1) (.ref D) ce) (fun r s' => match r with
            | .ok _ => ∃ m, m < n ∧ Jn m s'
            | .error _ => False) f6 := by
          refine loopB Jm ?_ m1 ⟨0, H6, I6.weak (wipe_length _ _) (fun j v e => (wipe_some e).1), st6, fun x hx => (fp6 x hx).1, w1⟩
          rintro k g6 ⟨j, H7, I7, st7, n7, w7⟩
          rcases turn1 j k H7 w7 with ⟨stop1, nx1⟩ | ⟨go1, Nx1, hNx1, step1⟩
          · refine thnF (T1.done (X.blk c Hc scope ce fp) rfl rfl rfl calm j _ g6 (wipe σ3 vs1) H7 (fun _ _ => False) I7 (fpo1 n7) st7 stop1) fun r g7 ⟨er, I8⟩ => ?_
            subst er
            exact back I8 (l3.trans (wipe_length σ3 vs1).symm) k3' nx1
          · refine thnF (T1.item (X.blk c Hc scope ce fp) rfl rfl rfl calm j _ g6 (wipe σ3 vs1) H7 (fun _ _ => False) I7 (fpo1 n7) st7 go1) fun r g7 ⟨u1, er, h8⟩ => ?_
            subst er
            refine thnF h8 fun _ g8 ⟨x1, H8, I8, r8, y8, st8, n8⟩ => ?_
            refine thnF (pg1.run _ g8 (wipe σ3 vs1) H8 x1 u1 _ (I8.pinned (fpo1 n8) (T1.obj _ _ st8)) r8 (step1 x1 H8 y8)) fun _ g9 ⟨σ9, H9, I9, hw9, q9⟩ => ?_
            refine thnF (pt1.run _ g9 σ9 H9 _ I9 q9) fun b1 ga ⟨Ha, Ia, qa⟩ => ?_
            have back1 : ∀ {s' : Shared} {H' : Hp}, Inv (X.blk c Hc scope ce fp) (([] ++ pinsAt fp f2.heap) ++ pinsAt fp1 g8.heap) σ9 H' s' → Nx1 H' → ∃ m, m < k ∧ Jm m s' := fun {s' H'} I' nx => by
              obtain ⟨m', hm, w'⟩ := hNx1 H' nx
              have pin : ∀ x ∈ fp1, ∀ o, g8.heap.get? x = some o → s'.heap.get? x = some o ∧ H' x = none := fun x hx o e =>
                let z := I'.pin (x, o) (List.mem_append_right _ (List.mem_append_right _ (mem_pinsAt hx e)))
                ⟨z.1, z.2.1⟩
              exact ⟨m', hm, j + 1, H', I'.unpinned.weak (by rw [← hw9, wipe_length]) (fun j v e => by rw [← hw9] at e; exact (wipe_some e).1), T1.keep _ _ _ st8 fun x hx o e => (pin x hx o e).1, fun x hx => let ⟨o, e, _⟩ := T1.obj _ _ st8 x hx; (pin x hx o e).2, w'⟩
            cases b1 with
            | false => simp only [Bool.false_eq_true, if_false] at qa ⊢; exact back1 Ia qa
            | true =>
              simp only [if_true] at qa ⊢
              refine thnF (pk.run _ ga σ9 Ha _ Ia qa) fun z1 gb ⟨yk, Hb', Ib', rb, qb⟩ => thnF (pv.run _ gb σ9 Hb' _ Ib' qb) fun z2 gc ⟨yv, Hg, Ig, rg, kvs, kk, ek, eDk, hz, nx⟩ => ?_
              subst ek
              exact d_dictSet (X := X.blk c Hc scope ce fp) Ig eDk hz rb rg fun gd Igd => back1 Igd nx
        exact startB inner (T1.self X.A 0 _ _ _ st6 inner)
  exact codeAny_compStart_dict run (T.self X.A 0 _ _ _ std run)
theorem pe_dc2 {kx vx tg iter tg1 iter1 : Expr} {ifs ifs1 : List Expr} {scope : Scope} {own : List (Str × Nat)} {vs1 : List Nat} {pos : Pos} {wi wi1 : TI} {g g1 : TG} {tt tt1 : TT} {tk tv : TE}
    (calm : X.calm = true) (nod : X.N.Nodup) (hi : PI X tg iter wi) (ok : BlkOk X.N X.env.scope scope own) (sub : ∀ i ∈ vs1, i ∈ own.map (·.2))
    (B : ∀ (s : Shared) (H : Hp) (C : Addr) (cl : List (Str × Addr)) (fp : List Addr), (PG (X.blk s H scope (compEnvC scope cl C X.env) fp) tg g ∧ PTs (X.blk s H scope (compEnvC scope cl C X.env) fp) ifs tt ∧ PI (X.blk s H scope (compEnvC scope cl C X.env) fp) tg1 iter1 wi1 ∧ PG (X.blk s H scope (compEnvC scope cl C X.env) fp) tg1 g1 ∧
      PTs (X.blk s H scope (compEnvC scope cl C X.env) fp) ifs1 tt1 ∧ PE (X.blk s H scope (compEnvC scope cl C X.env) fp) kx tk ∧ PE (X.blk s H scope (compEnvC scope cl C X.env) fp) vx tv))
    (fold0 : ∀ x, foldedSetIterable iter X.env x = pure x) (fold1 : ∀ env x, foldedSetIterable iter1 env x = pure x) : PE X (dc2 kx vx tg iter tg1 iter1 ifs ifs1 scope pos) (tDc2 wi g tt wi1 g1 tt1 tk tv (own.map (·.2)) vs1) := by
  refine ⟨fun pins s σ H Q I h => ?_⟩
  rw [arm_eval_DictComp]
  refine dc2_run calm nod I hi ok sub B fold0 fold1 h fun D C s' m H' I' q hn f => ⟨m, hn, fun h'' sb => ?_⟩
  obtain ⟨f0, f1, _, f3, f4, f5⟩ := f
  exact ⟨.ref D, H', I'.turned (t' := s'.toks) (fun x o hx e => (sb.2 x hx).trans e) f0 f1 f3 f4 f5, rfl, q⟩
/-- y = {..} on one row -/
theorem ps_setDc {i : Nat} {y : Str} {py : Pos} {kx vx tg iter : Expr} {ifs : List Expr} {scope : Scope} {own : List (Str × Nat)} {pos spos : Pos} {wi : TI} {g : TG} {tt : TT} {tk tv : TE} (calm : X.calm = true) (nod : X.N.Nodup) (hy : X.N[i]? = some y) (hyl : X.env.scope.names.lookup y = some .local)
    (hsw : swapsWith (.DictComp kx vx [⟨tg, iter, ifs, 0⟩] scope pos) (some (.Name y py)) spos.line X.env = pure true) (hi : PI X tg iter wi) (ok : BlkOk X.N X.env.scope scope own)
    (hg : ∀ (s : Shared) (H : Hp) (C : Addr) (cl : List (Str × Addr)) (fp : List Addr), PG (X.blk s H scope (compEnvC scope cl C X.env) fp) tg g) (ht : ∀ (s : Shared) (H : Hp) (C : Addr) (cl : List (Str × Addr)) (fp : List Addr), PTs (X.blk s H scope (compEnvC scope cl C X.env) fp) ifs tt)
    (hk : ∀ (s : Shared) (H : Hp) (C : Addr) (cl : List (Str × Addr)) (fp : List Addr), PE (X.blk s H scope (compEnvC scope cl C X.env) fp) kx tk) (he : ∀ (s : Shared) (H : Hp) (C : Addr) (cl : List (Str × Addr)) (fp : List Addr), PE (X.blk s H scope (compEnvC scope cl C X.env) fp) vx tv) (fold0 : ∀ x, foldedSetIterable iter X.env x = pure x) :
    PS X (.Assign [.Name y py] (.DictComp kx vx [⟨tg, iter, ifs, 0⟩] scope pos) spos) (tAsg (tDc wi g tt tk tv (own.map (·.2))) (gName i)) := by
  refine ⟨fun pins s σ H D I h => ?_⟩
  rw [exec_Assign_Name_used _ _ _ _ hsw]
  refine wpAny_bind (wpAny_standAt (wpAny_bind ?_))
  show wpAny _ X.A (do let _ ← comprehension (.DictComp kx vx [⟨tg, iter, ifs, 0⟩] scope pos) scope X.env (firstIterPos [⟨tg, iter, ifs, 0⟩] pos) newDict false (eval iter X.env) (some (assign (.Name y py) X.env))) _ _ s
  have h : tDc wi g tt tk tv (own.map (·.2)) σ H (fun x H1 => gName i x σ H1 D.nx) := h
  refine wpAny_bind (thn (dc_core (Qf := fun _ s' => SP X pins D .next s') calm nod I hi ok hg ht hk he fold0 h fun L C s' m H' I' q hn f => ?_) fun _ s' hq => wpAny_pure (wpAny_pure hq))
  show wpAny _ _ (assign (.Name y py) X.env (.ref L)) _ _ _
  obtain ⟨f0, f1, _, f3, f4, f5⟩ := f
  refine wpAny_assign_Name (store_ok2 (v := V.ref L) I' nod hy (.inl hyl) rfl (fun s2 I2 ⟨a, sb, ha⟩ => ⟨m, hn.sameBut sb (ha.elim (fun z => by rw [z]; exact f1) fun z e => f4 y a z e.symm), fun h3 sb3 => ?_⟩) (.inr hyl))
  exact ⟨_, H', I2.turned (t' := s2.toks) (fun x o hx e => (sb3.2 x hx).trans e) f0 f1 f3 f4 f5, q⟩
theorem swD_true {kx vx : Expr} {gs : List Comprehension} {scope : Scope} {pos py : Pos} {y : Str} {l : Nat} {env : Env} (hk : env.scope.kind = .function) (hy : env.scope.names.lookup y = some .local) (hl : (py.line == pos.line) = true)
    (ha : (scope.names.any fun (n, k) => n == y && (k == .local || k == .cell)) = false) : swapsWith (.DictComp kx vx gs scope pos) (some (.Name y py)) l env = pure true := by
  have h1 : env.kindOf y = some .local := hy
  have h2 : env.blockKind = .function := by unfold Env.blockKind; rw [hk]; rfl
  unfold swapsWith
  simp only [h1, h2, ha, Expr.pos, hl]
  rfl
theorem swD_false {sc : Scope} {kx vx : Expr} {gs : List Comprehension} {scope : Scope} {pos py : Pos} {y : Str} {l : Nat} {env : Env} (h : (sc.names.lookup y == some NameKind.local && py.line == pos.line) = false) (hsc : env.scope = sc) : swapsWith (.DictComp kx vx gs scope pos) (some (.Name y py)) l env = pure false := by
  unfold swapsWith
  subst hsc
  show pure _ = pure false
  have e : (env.kindOf y == some NameKind.local && py.line == (Expr.DictComp kx vx gs scope pos).pos.line) = false := h
  rw [Bool.and_assoc, Bool.and_assoc, ← Bool.and_assoc (env.kindOf y == some NameKind.local), e, Bool.false_and, Bool.and_false]
end
end TV
end
-- VE
section
set_option Elab.async false
set_option linter.all false
set_option maxRecDepth 100000
set_option maxHeartbeats 4000000
/-! VE: dict comprehensions with two fors; y = {..}. -/
namespace TV
open PySem L2
open TB (SqF NewT Ctx FCtx GK lk pt RelKV tOrE tOrS)
def dcS (g : Tg) (t : Tx) (ke e : Ex) (Γ : Ga) : List Va → List (Key × Va) → So → Option (List (Key × Va) × So)
  | [], acc, O => some (acc, O)
  | x :: xs, acc, O => match g x Γ with
    | some Γ1 => match t Γ1 O with
      | some (true, O1) => match ke Γ1 O1 with
        | some (kv, O2) => match keyOf kv with
          | some k => match e Γ1 O2 with
            | some (v, O3) => if acc.length < sizeLine then dcS g t ke e Γ xs (pt acc k v) O3 else none
            | none => none
          | none => none
        | none => none
      | some (false, O1) => dcS g t ke e Γ xs acc O1
      | none => none
    | none => none
def dcM (vs1 : List Nat) (g : Tg) (t : Tx) (it1 : Ax) (g1 : Tg) (t1 : Tx) (ke e : Ex) (Γ : Ga) : List Va → List (Key × Va) → So → Option (List (Key × Va) × So)
  | [], acc, O => some (acc, O)
  | x :: xs, acc, O => match g x Γ with
    | some Γ1 => match t Γ1 O with
      | some (true, O1) => match it1 Γ1 O1 with
        | some (ys, O2) => match dcS g1 t1 ke e (wipeA Γ1 vs1) ys acc O2 with
          | some (acc', O3) => dcM vs1 g t it1 g1 t1 ke e Γ xs acc' O3
          | none => none
        | none => none
      | some (false, O1) => dcM vs1 g t it1 g1 t1 ke e Γ xs acc O1
      | none => none
    | none => none
def mDc2 (vs vs1 : List Nat) (it : Ax) (g : Tg) (t : Tx) (it1 : Ax) (g1 : Tg) (t1 : Tx) (ke e : Ex) : Ex := fun Γ O => match it Γ O with
  | some (xs, O1) => match dcM vs1 g t it1 g1 t1 ke e (wipeA Γ vs) xs [] O1 with
      | some (r, O2) => some (.dct r, O2)
      | none => none
  | none => none
section
variable {K : PySem.W.Frag} {m m1 : List Addr} {H H1 : Hp} {Γ : Ga} {σ : L2.St} {mx mx1 : Ax} {mt mt1 : Tx} {me mk : Ex}
theorem t_dc2 {pr pr1 : Bool} {g g1 : TG} {mg mg1 : Tg} {vs vs1 : List Nat} (hg : GOk K pr vs g mg) (hg1 : GOk K pr1 vs1 g1 mg1) :
    ∀ σ H Q, TFm K (mDc2 vs vs1 mx mg mt mx1 mg1 mt1 mk me) σ H Q → tDc2 (TIm K pr mx) g (TTm K mt) (TIm K pr1 mx1) g1 (TTm K mt1) (TEm K mk) (TEm K me) vs vs1 σ H Q := by
  rintro σ H Q ⟨m, Γ, O, r, O', f, s, e, k⟩
  unfold mDc2 at e
  split at e
  · rename_i ws O1 h1
    split at e
    · rename_i res O2 hres
      obtain ⟨rfl, rfl⟩ := Prod.mk.inj (Option.some.inj e)
      refine ⟨m, Γ, O, ws, O1, f, s, h1, fun J m1 H1 x1 f1 wk D nD => ?_⟩
      have nD0 : H D = none := x1.none f1 nD
      refine ⟨fun n l H' => l = ws.length - n ∧ n ≤ ws.length ∧ ∃ m2 O3 acc us, Ext m1 H1 m2 H' ∧ Fit K m2 O3 H' ∧ H' D = some (.dK us) ∧ D ∉ m2 ∧ RepKV K m2 H' acc us ∧ dcM vs1 mg mt mx1 mg1 mt1 mk me (wipeA Γ vs) (ws.drop n) acc O3 = some (res, O2),
        ⟨ws.length, by simp, Nat.zero_le _, m1, O1, [], [], Ext.lay nD, f1.lay nD, upd_same, f1.notin nD, .nil, by simpa using hres⟩, ?_⟩
      rintro n l H2 ⟨rfl, hn, m2, O3, acc, us, x2, f2, hD, nD2, rs, e2⟩
      by_cases hlt : n < ws.length
      · refine Or.inr ⟨wk.go m2 O3 H2 n hlt x2.toKp f2, fun H3 => ∃ m3 O4 acc us, Ext m1 H1 m3 H3 ∧ Fit K m3 O4 H3 ∧ H3 D = some (.dK us) ∧ D ∉ m3 ∧ RepKV K m3 H3 acc us ∧ dcM vs1 mg mt mx1 mg1 mt1 mk me (wipeA Γ vs) (ws.drop (n + 1)) acc O4 = some (res, O2),
          fun H3 q => ⟨ws.length - (n + 1), by omega, rfl, hlt, q⟩, fun x H3 y => ?_⟩
        obtain ⟨x3, f3, r3, kp3⟩ := wk.yld m2 O3 H2 n ws[n] x H3 (by simp [hlt]) x2.toKp f2 y
        rw [List.drop_eq_getElem_cons hlt] at e2
        unfold dcM at e2
        split at e2
        · rename_i Γ3 hg3
          have x13 := x2.trans x3
          have s3 : SFit K m2 H3 (wipeA Γ vs) (L2.wipe σ vs) := (s.ext (x1.trans x13)).wipes vs
          refine hg m2 H3 _ Γ3 _ _ x _ r3 s3 hg3 fun σ4 s4 w4 => ⟨w4.trans TB.wipe_wipe, ?_⟩
          have hD3 := kp3 D _ hD
          have rs3 := rs.ext x3
          split at e2
          · rename_i O5 h5
            refine ⟨m2, Γ3, O3, _, O5, f3, s4, h5, fun m6 H6 x6 f6 => ?_⟩
            dsimp only
            rw [if_pos rfl]
            have hD6 := x6.kp D _ nD2 hD3
            have nD6 := x6.notin hD3 nD2
            have s6 := s4.ext x6
            have rs6 := rs3.ext x6
            have x16 := x13.trans x6
            split at e2
            · rename_i ys O7 h7
              split at e2
              · rename_i acc' O8 h8
                refine ⟨m6, Γ3, O5, ys, O7, f6, s6, h7, fun J1 m9 H9 x9 f9 wk1 => ?_⟩
                have hD9 := x9.kp D _ nD6 hD6
                have nD9 := x9.notin hD6 nD6
                have s9 := s6.ext x9
                have x19 := x16.trans x9
                refine ⟨fun j l H' => l = ys.length - j ∧ j ≤ ys.length ∧ ∃ m2 O3 acc us, Ext m1 H1 m2 H' ∧ Kp m9 H9 m2 H' ∧ Fit K m2 O3 H' ∧ H' D = some (.dK us) ∧ D ∉ m2 ∧ RepKV K m2 H' acc us ∧ dcS mg1 mt1 mk me (wipeA Γ3 vs1) (ys.drop j) acc O3 = some (acc', O8),
                  ⟨ys.length, by simp, Nat.zero_le _, m9, O7, acc, us, x19, Kp.refl _ _, f9, hD9, nD9, rs6.ext x9, by simpa using h8⟩, ?_⟩
                rintro j l H10 ⟨rfl, hj, m10, O10, ac, uu, xa, xb, f10, hDa, nDa, ra, ea⟩
                by_cases hjl : j < ys.length
                · refine Or.inr ⟨wk1.go m10 O10 H10 j hjl xb f10, fun H' => ∃ m2 O3 acc us, Ext m1 H1 m2 H' ∧ Kp m9 H9 m2 H' ∧ Fit K m2 O3 H' ∧ H' D = some (.dK us) ∧ D ∉ m2 ∧ RepKV K m2 H' acc us ∧ dcS mg1 mt1 mk me (wipeA Γ3 vs1) (ys.drop (j + 1)) acc O3 = some (acc', O8),
                    fun H' q => ⟨ys.length - (j + 1), by omega, rfl, hjl, q⟩, fun x' H11 y' => ?_⟩
                  obtain ⟨xc, fc, rc, kc⟩ := wk1.yld m10 O10 H10 j ys[j] x' H11 (by simp [hjl]) xb f10 y'
                  rw [List.drop_eq_getElem_cons hjl] at ea
                  unfold dcS at ea
                  split at ea
                  · rename_i Γd hgd
                    have sd : SFit K m10 H11 (wipeA Γ3 vs1) (L2.wipe σ4 vs1) := (s9.mono (xb.trans xc.toKp)).wipes vs1
                    refine hg1 m10 H11 _ Γd _ _ x' _ rc sd hgd fun σe se we => ⟨we.trans TB.wipe_wipe, ?_⟩
                    have hDc := kc D _ hDa
                    split at ea
                    · rename_i Oe he
                      refine ⟨m10, Γd, O10, _, Oe, fc, se, he, fun mf Hf xf ff => ?_⟩
                      dsimp only
                      rw [if_pos rfl]
                      split at ea
                      · rename_i kv Og hgk
                        split at ea
                        · rename_i kk hkk
                          split at ea
                          · rename_i v Oh hgv
                            split at ea
                            · rename_i hlen
                              refine ⟨mf, Γd, Oe, kv, Og, ff, se.ext xf, hgk, fun mg Hg ug xg fg rg => ⟨mg, Γd, Og, v, Oh, fg, (se.ext xf).ext xg, hgv, fun mh Hh u xh fh rh => ?_⟩⟩
                              have nDf := xf.notin hDc nDa
                              have hDf := xf.kp D _ nDa hDc
                              have nDg := xg.notin hDf nDf
                              have hDg := xg.kp D _ nDf hDf
                              have nDh := xh.notin hDg nDg
                              have hDh := xh.kp D _ nDg hDg
                              have un : unl (Hh D) := by rw [hDh]; trivial
                              have y1 := (((xa.trans xc).trans xf).trans xg).trans xh
                              have y2 := (((xb.trans xc.toKp).trans xf.toKp).trans xg.toKp).trans xh.toKp
                              have rr := ra.ext (((xc.trans xf).trans xg).trans xh)
                              have hl : ac.length = uu.length := Paired.length rr.rel
                              exact ⟨uu, kk, rep_key hkk rg, hDh, by omega, mh, Oh, pt ac kk v, _, y1.putAt nD un, y2.trans (Kp.put un), fh.put un nDh, upd_same, nDh, (RepKV.of (rr.rel.put rh)).mono (Kp.put un), ea⟩
                            · cases ea
                          · cases ea
                        · cases ea
                      · cases ea
                    · rename_i Oe he
                      refine ⟨m10, Γd, O10, _, Oe, fc, se, he, fun mf Hf xf ff => ?_⟩
                      dsimp only
                      rw [if_neg (by decide)]
                      exact ⟨mf, Oe, ac, uu, (xa.trans xc).trans xf, (xb.trans xc.toKp).trans xf.toKp, ff, xf.kp D _ nDa hDc, xf.notin hDc nDa, ra.ext (xc.trans xf), ea⟩
                    · cases ea
                  · cases ea
                · have ej : j = ys.length := by omega
                  subst ej
                  rw [List.drop_length] at ea
                  unfold dcS at ea
                  obtain ⟨rfl, rfl⟩ := Prod.mk.inj (Option.some.inj ea)
                  exact Or.inl ⟨wk1.stop m10 O10 H10 xb f10, m10, O10, ac, uu, xa, f10, hDa, nDa, ra, e2⟩
              · cases e2
            · cases e2
          · rename_i O5 h5
            refine ⟨m2, Γ3, O3, _, O5, f3, s4, h5, fun m6 H6 x6 f6 => ?_⟩
            dsimp only
            rw [if_neg (by decide)]
            exact ⟨m6, O5, acc, us, x13.trans x6, f6, x6.kp D _ nD2 hD3, x6.notin hD3 nD2, rs3.ext x6, e2⟩
          · cases e2
        · cases e2
      · have en : n = ws.length := by omega
        subst en
        rw [List.drop_length] at e2
        unfold dcM at e2
        obtain ⟨rfl, rfl⟩ := Prod.mk.inj (Option.some.inj e2)
        exact Or.inl ⟨wk.stop m2 O3 H2 x2.toKp f2, k m2 H2 _ (x1.trans x2) f2 (.dct hD nD0 nD2 rs)⟩
    · cases e
  · cases e
end
section
variable {X : Cx} {P : Program} {w : World} {K : PySem.W.Frag} {mg : Str → Option Value} {base : Heap} {N : List Str} {sc : Scope} {lv : Nat} {pos : Pos} {tg iter tg1 iter1 kx elt : Expr} {ifs ifs1 : List Expr} {scope : Scope} {mx mx1 : Ax} {mtg mtg1 : Tg} {mt mt1 : Tx} {mke me : Ex} {vs vs1 : List Nat}
theorem d_dc2F (C : Ctx X P w K mg base N sc lv) (own : List (Str × Nat)) {pr pr1 : Bool} (hi : PI X tg iter (TIm K pr mx)) (hg : DGc P w K mg base N (relS scope sc) lv pr vs tg mtg) (ht : ∀ X', Ctx X' P w K mg base N (relS scope sc) lv → PTs X' ifs (TTm K mt))
    (hi1 : ∀ X', Ctx X' P w K mg base N (relS scope sc) lv → PI X' tg1 iter1 (TIm K pr1 mx1)) (hg1 : DGc P w K mg base N (relS scope sc) lv pr1 vs1 tg1 mtg1) (ht1 : ∀ X', Ctx X' P w K mg base N (relS scope sc) lv → PTs X' ifs1 (TTm K mt1)) (hk : ∀ X', Ctx X' P w K mg base N (relS scope sc) lv → PE X' kx (TEm K mke)) (he : ∀ X', Ctx X' P w K mg base N (relS scope sc) lv → PE X' elt (TEm K me))
    (ok : blkC N sc scope own = true := by decide +kernel) (hv : own.map (·.2) = vs := by rfl) (hv1 : ∀ i ∈ vs1, i ∈ vs := by decide) (hs : ∀ x, foldedSetIterable iter X.env x = pure x := by intro _; rfl) (hs1 : ∀ env x, foldedSetIterable iter1 env x = pure x := by intro _ _; rfl) :
    PE X (.DictComp kx elt [⟨tg, iter, ifs, 0⟩, ⟨tg1, iter1, ifs1, 0⟩] scope pos) (TFm K (mDc2 vs vs1 mx mtg mt mx1 mtg1 mt1 mke me)) := by
  obtain ⟨g, h2, h3⟩ := hg
  obtain ⟨g1, h4, h5⟩ := hg1
  subst hv
  exact (pe_dc2 C.calm (by rw [C.hN]; exact C.nd) hi (by rw [C.hN, C.hsc]; exact blkOk_by ok) hv1 (fun s H c cl fp => ⟨h2 _ (C.blk s H scope c cl fp), ht _ (C.blk s H scope c cl fp), hi1 _ (C.blk s H scope c cl fp), h4 _ (C.blk s H scope c cl fp), ht1 _ (C.blk s H scope c cl fp), hk _ (C.blk s H scope c cl fp), he _ (C.blk s H scope c cl fp)⟩) hs hs1).weak (t_dc2 h3 h5)
theorem s_dc0 (C : FCtx X P w K mg base N sc lv) (i : Nat) (own : List (Str × Nat)) {pr : Bool} {y : Str} {py spos : Pos} (hi : PI X tg iter (TIm K pr mx)) (hg : DGc P w K mg base N (relS scope sc) lv pr vs tg mtg) (ht : ∀ X', Ctx X' P w K mg base N (relS scope sc) lv → PTs X' ifs (TTm K mt))
    (hk : ∀ X', Ctx X' P w K mg base N (relS scope sc) lv → PE X' kx (TEm K mke)) (he : ∀ X', Ctx X' P w K mg base N (relS scope sc) lv → PE X' elt (TEm K me)) (hy : N[i]? = some y := by rfl) (hyl : sc.names.lookup y = some .local := by rfl) (hkd : sc.kind = .function := by rfl) (hl : (py.line == pos.line) = true := by rfl) (ha : (scope.names.any fun (n, k) => n == y && (k == .local || k == .cell)) = false := by decide +kernel)
    (ok : blkC N sc scope own = true := by decide +kernel) (hv : own.map (·.2) = vs := by rfl) (hs : ∀ x, foldedSetIterable iter X.env x = pure x := by intro _; rfl) :
    PS X (.Assign [.Name y py] (.DictComp kx elt [⟨tg, iter, ifs, 0⟩] scope pos) spos) (tAsg (TFm K (mDc vs mx mtg mt mke me)) (gName i)) := by
  obtain ⟨g, h2, h3⟩ := hg
  subst hv
  exact (ps_setDc C.calm (by rw [C.hN]; exact C.nd) (by rw [C.hN]; exact hy) (by rw [C.hsc]; exact hyl) (swD_true (by rw [C.hsc]; exact hkd) (by rw [C.hsc]; exact hyl) hl ha) hi (by rw [C.hN, C.hsc]; exact blkOk_by ok)
    (fun s H c cl fp => h2 _ (C.blk s H scope c cl fp)) (fun s H c cl fp => ht _ (C.blk s H scope c cl fp)) (fun s H c cl fp => hk _ (C.blk s H scope c cl fp)) (fun s H c cl fp => he _ (C.blk s H scope c cl fp)) hs).weak fun D σ H h => t_dc h3 σ H _ h
theorem s_dcC {gs : List Comprehension} (C : FCtx X P w K mg base N sc lv) (i : Nat) {y : Str} {py spos : Pos} (he : PE X (.DictComp kx elt gs scope pos) (TEm K me)) (hy : N[i]? = some y := by rfl) (hx : Loc sc y := by first | exact Or.inl rfl | exact Or.inr rfl) (h : (sc.names.lookup y == some NameKind.local && py.line == pos.line) = false := by rfl) :
    PS X (.Assign [.Name y py] (.DictComp kx elt gs scope pos) spos) (TSm K (sAsg me (gN i))) := (TB.q_set C i he hy hx (swD_false h C.hsc)).weak (t_asg (vs := [i]) (gok_name (by simp)))
end
end TV
end
-- VZ
-- VY
-- VX
section
set_option Elab.async false
set_option linter.all false
set_option maxRecDepth 100000
set_option maxHeartbeats 4000000
/-! VX: t[::-1]. -/
namespace TV
open PySem L2 PySem.Spec PyProof.Rows HT
open TB (Ctx GK SqF NewT)
section
variable {prog : Program} {w : World} {A : Around} {E : Value → Shared → Prop} {s : Shared}
theorem sa_rev {sl : Addr} {vs : Value} {n : Nat} {Q : Int × Int × Nat → Shared → Prop} (hs : s.heap.IsSliceOf sl .none .none vs) (ps : IsPart vs (some (-1))) (h : Q ((n : Int) - 1, -1, n) s) : wpAny (model prog w) A (Builtin.Slice.sliceApplied (.ref sl) (pure (n : Int))) Q E s := by
  obtain ⟨os, hos, hcs, hds⟩ := id hs
  unfold Builtin.Slice.sliceApplied Builtin.Slice.sliceFields
  refine wpAny_bind (wpAny_bind (wpAny_field hos hds (x := .none) rfl (wpAny_bind (wpAny_field hos hds (x := .none) rfl (wpAny_bind (wpAny_field hos hds (x := vs) rfl (wpAny_pure ?_)))))))
  refine wpAny_bind (slicePart_ ps ?_)
  show wpAny _ _ (if ((-1 : Int) == 0) = true then _ else _) _ _ s
  rw [if_neg (by decide)]
  refine wpAny_bind (slicePart_none (wpAny_bind (slicePart_none (wpAny_bind (wpAny_pure ?_)))))
  show wpAny _ _ (match Builtin.Slice.sliceAdjust none none (-1) (n : Int) with | (lo, hi) => pure (lo, (-1 : Int), Builtin.Slice.slicePlaces lo hi (-1))) _ _ s
  have e1 : Builtin.Slice.sliceAdjust none none (-1) (n : Int) = ((n : Int) - 1, -1) := by
    unfold Builtin.Slice.sliceAdjust
    simp
  rw [e1]
  show wpAny _ _ (pure ((n : Int) - 1, (-1 : Int), Builtin.Slice.slicePlaces ((n : Int) - 1) (-1) (-1))) _ _ s
  have e2 : Builtin.Slice.slicePlaces ((n : Int) - 1) (-1) (-1) = n := by
    unfold Builtin.Slice.slicePlaces
    simp
    omega
  rw [e2]
  exact wpAny_pure h
theorem fm_congr {α β : Type} {f g : α → Option β} : ∀ {l : List α}, (∀ x ∈ l, f x = g x) → l.filterMap f = l.filterMap g
  | [], _ => rfl
  | a :: l, h => by
    rw [List.filterMap_cons, List.filterMap_cons, h a List.mem_cons_self, fm_congr fun x hx => h x (List.mem_cons_of_mem _ hx)]
theorem pick_rev (xs : Array Value) : ((List.range xs.size).filterMap fun (m : Nat) => xs[((xs.size : Int) - 1 + (m : Int) * (-1)).toNat]?).toArray = xs.toList.reverse.toArray := by
  have h := pick_gen xs.toList.reverse.toArray 0 xs.size
  have e : ((List.range xs.size).filterMap fun (m : Nat) => xs[((xs.size : Int) - 1 + (m : Int) * (-1)).toNat]?) = (List.range xs.size).filterMap fun (m : Nat) => xs.toList.reverse.toArray[(((0 : Nat) : Int) + (m : Int) * 1).toNat]? := by
    apply fm_congr
    intro k hk
    have hk : k < xs.size := List.mem_range.mp hk
    have e1 : ((xs.size : Int) - 1 + (k : Int) * (-1)).toNat = xs.size - 1 - k := by omega
    have e2 : ((((0 : Nat) : Int)) + (k : Int) * 1).toNat = k := by omega
    rw [e1, e2]
    have h3 : xs.toList.reverse.toArray[k]? = xs.toList.reverse[k]? := List.getElem?_toArray ..
    have hk' : k < xs.toList.length := by rw [Array.length_toList]; exact hk
    rw [h3, List.getElem?_reverse hk', Array.length_toList, Array.getElem?_toList]
  rw [e, h]
  simp only [List.drop_zero]
  rw [List.take_of_length_le (by simp)]
theorem getItem_rev {t sl : Addr} {items : Array Value} {vs : Value} {Q : Value → Shared → Prop} (ht : IsTup s.heap t items) (hs : s.heap.IsSliceOf sl .none .none vs) (ps : IsPart vs (some (-1)))
    (h : Q (.ref s.heap.objs.size) { s with heap := s.heap.push { cls := .type "tuple", data := .seq items.toList.reverse.toArray } }) (hz : items.size ≤ sizeLine) : wpAny (model prog w) A (getItem (.ref t) (.ref sl)) Q E s := by
  have fits : sizeOk (.seq items.toList.reverse.toArray) := by
    show items.toList.reverse.toArray.size ≤ sizeLine
    simpa using hz
  have hT : s.TypeIs (.ref sl) "slice" := let ⟨os, hos, hcs, _⟩ := id hs; ⟨os, hos, hcs⟩
  unfold getItem
  try with_reducible refine wpAny_holding ?_
  first | refine wpAny_bind (wpAny_pure ?_) | skip
  refine wpAny_bind (wpAny_sequenceKey ht.typeIs (by decide) (wpAny_bind (wpAny_callSpecial?_slot (name := Str.ofString "__getitem__") ht.typeIs PyProof.Rows.slot_tuple_getitem (wpAny_call_entry PyProof.Rows.slot_tuple_getitem ht.typeIs entry_tuple_getitem ?_ (args_tuple_getitem _ _)))))
  show wpAny _ _ (Builtin.Tuple.tupleItemsOf (.ref t) >>= _) _ _ s
  refine wpAny_bind (tupleItemsOf_ ht (wpAny_bind (wpAny_typeOf hT ?_)))
  rw [if_pos (by decide)]
  refine wpAny_bind (sa_rev hs ps ?_)
  show wpAny _ _ (if ((items.size : Int) - 1 == 0 && (-1 : Int) == 1 && items.size == items.size) = true then _ else _) _ _ s
  rw [if_neg (by simp), pick_rev]
  first
    | exact wpAny_bind (m := Builtin.Tuple.tupleExact _) (wpAny_newObj_type (wpAny_pure ⟨_, rfl, wpAny_pure h⟩) fits)
    | exact wpAny_bind (wpAny_bind (m := Builtin.Tuple.tupleExact _) (wpAny_newObj_type (wpAny_pure (wpAny_pure ⟨_, rfl, wpAny_pure h⟩)) fits))
    | exact wpAny_bind (m := Builtin.Tuple.tupleExact _) (wpAny_newObj_type (wpAny_bind (wpAny_pure (wpAny_pure ⟨_, rfl, wpAny_pure h⟩))) fits)
end
section
variable {X : Cx}
def tRevB (K : PySem.W.Frag) (te : TE) : TE := fun σ H Q => te σ H fun x H1 => (∃ a xs, x = .ref a ∧ SqL K H1 a xs ∧ ∀ p, H1 p = none → Q (.ref p) (upd H1 p (.lst xs.reverse))) ∨ ∃ a xs, x = .ref a ∧ SqT K H1 a xs ∧ NewT H1 xs.reverse Q
theorem pe_revB {e : Expr} {te : TE} {k : Nat} {p1 p2 p3 pos : Pos} (he : PE X e te) : PE X (.Subscript e (.Slice none none (some (.UnaryOp .USub (.Constant (.int 1) k p1) p2)) p3) pos) (tRevB X.K te) := by
  refine ⟨fun pins s σ H Q I h => ?_⟩
  refine Subscript_ (thn (he.run pins s σ H _ I h) fun v s1 ⟨x, H1, I1, r1, q1⟩ => ?_)
  have hst : PO X (some (.UnaryOp .USub (.Constant (.int 1) k p1) p2)) (tPart (tUn (rU fun i => .int (-i)) (tC (.int 1)))) := po_some (pe_un un_neg pe_int)
  refine wpAny_Slice (thn (po_none.run pins s1 σ H1 (fun o H2 => o = none ∧ H2 = H1) I1 ⟨rfl, rfl⟩) fun vl s2 ⟨l, H2, I2, pl, el, eH⟩ => ?_)
  subst el eH
  refine thn (po_none.run pins s2 σ H2 (fun o H3 => o = none ∧ H3 = H2) I2 ⟨rfl, rfl⟩) fun vu s3 ⟨u, H3, I3, pu, eu, eH⟩ => thn (hst.run pins s3 σ H3 (fun o H4 => o = some (-1) ∧ H4 = H3) I3 ⟨1, rfl, -1, rfl, rfl, rfl⟩) fun vs s4 ⟨o, H4, I4, ps, eo, eH2⟩ => ?_
  subst eu eH eo eH2
  have I5 : Inv X pins σ H4 { s4 with heap := s4.heap.push { cls := .type "slice", data := .fields #[vl, vu, vs] } } := I4.kept (t' := s4.toks) fun b ob q => Heap.get?_push_of_some _ q
  rcases q1 with ⟨a, xs, rfl, hx, q⟩ | ⟨a, xs, rfl, hx, q⟩
  · cases r1
    obtain ⟨its, r, ht, hz⟩ := I5.list hx
    show wpAny (model X.prog X.w) X.A (subscriptTail e (.Slice none none (some (.UnaryOp .USub (.Constant (.int 1) k p1) p2)) p3) (.ref a) (.ref s4.heap.objs.size)) (EP X pins σ Q) X.xe { s4 with heap := s4.heap.push { cls := .type "slice", data := .fields #[vl, vu, vs] } }
    refine tail_any (ops := [.ref a, .ref s4.heap.objs.size]) ht.isList.typeIs (PySem.slot_list_getitem.lookup) ?_ (by with_unfolding_all rfl)
    refine wpAny_getItem_list_slice ht.isList (Heap.IsSliceOf.new _ vl vu vs) pl pu ps (by decide) ?_ (by rw [List.size_toArray, ← r.length]; exact hz)
    rw [PySem.W.krv_pick]
    exact ⟨.ref _, _, I5.laid (t' := s4.toks) (o := .lst xs.reverse) (fun b ob q => Heap.get?_push_of_some _ q) (Nat.le_refl _) ⟨by rw [List.length_reverse]; exact hz, _, 0, r.reverse, Heap.get?_push_size _ rfl⟩, rfl, q _ (I5.hok.fresh (Nat.le_refl _))⟩
  · cases r1
    obtain ⟨its, r, ht, hz⟩ := I5.tuple hx
    cases pl
    cases pu
    show wpAny (model X.prog X.w) X.A (subscriptTail e (.Slice none none (some (.UnaryOp .USub (.Constant (.int 1) k p1) p2)) p3) (.ref a) (.ref s4.heap.objs.size)) (EP X pins σ Q) X.xe { s4 with heap := s4.heap.push { cls := .type "slice", data := .fields #[.none, .none, vs] } }
    refine tail_any (ops := [.ref a, .ref s4.heap.objs.size]) ht.typeIs (PyProof.Rows.slot_tuple_getitem.lookup) ?_ (by with_unfolding_all rfl)
    refine getItem_rev ht (Heap.IsSliceOf.new _ .none .none vs) ps ?_ (by rw [List.size_toArray, ← r.length]; exact hz)
    exact TB.tupF I5 r.reverse (by rw [List.length_reverse]; exact hz) q
end
section
variable {X : Cx} {P : Program} {w : World} {K : PySem.W.Frag} {mg : Str → Option Value} {base : Heap} {N : List Str} {sc : Scope} {lv : Nat} {a : Expr} {ma : Ex}
theorem t_rev : ∀ σ H Q, TRm K (mUn revV ma) σ H Q → tRevB K (TEm K ma) σ H Q := by
  rintro σ H Q ⟨m, Γ, O, w, O', f, s, e, k⟩
  obtain ⟨x, h1, h2⟩ := mUn_some e
  refine ⟨m, Γ, O, x, O', f, s, h1, fun m1 H1 u x1 f1 r1 => ?_⟩
  have lists : ∀ vs, asL O' x = some vs → w = .lst vs.reverse → (∃ a xs, u = .ref a ∧ SqL K H1 a xs ∧ ∀ p, H1 p = none → Q (.ref p) (upd H1 p (.lst xs.reverse))) := fun vs hv hw => by
    subst hw
    obtain ⟨b, ys, rfl, h, rs⟩ := rep_L f1 hv r1
    refine ⟨b, ys, rfl, h.l, fun p np => ?_⟩
    obtain ⟨g1, g2, g3⟩ := Raw.new f1 np rs.reverse
    exact k m1 _ _ (x1.trans g1) g2 (Or.inr (g3.since x1 f1))
  unfold revV at h2
  split at h2
  · rename_i vs
    cases h2
    cases r1 with
    | @tup b ys _ h rs => exact Or.inr ⟨b, ys, rfl, h.t, newT f1 rs.reverse fun m2 H2 z x2 f2 r2 => k m2 H2 z (x1.trans x2) f2 (Or.inl r2)⟩
  · cases hv : asL O' x with
    | none => rw [hv] at h2; cases h2
    | some vs =>
      rw [hv] at h2
      cases h2
      exact Or.inl (lists vs hv rfl)
theorem d_rev (C : Ctx X P w K mg base N sc lv) {k : Nat} {p1 p2 p3 pos : Pos} (ha : PE X a (TEm K ma)) : PE X (.Subscript a (.Slice none none (some (.UnaryOp .USub (.Constant (.int 1) k p1) p2)) p3) pos) (TEm K (mUn revV ma)) := by
  have := C.hK; subst this
  exact d_lk ((pe_revB ha).weak t_rev)
end
end TV
end
-- VW
section
set_option Elab.async false
set_option linter.all false
set_option maxRecDepth 100000
set_option maxHeartbeats 4000000
/-! VW: constants of the module; defs that are never called. -/
namespace TV
open PySem L2
open TB (TopF SqF)
section
variable {K : PySem.W.Frag} {mg : Str → Option Value}
/-- v stands for the value u of the written part -/
def CR (K : PySem.W.Frag) (v : Va) (u : Value) : Prop := ∃ y : V, RelV y u ∧ ∀ m H, Rep K m H v y
def CRs (K : PySem.W.Frag) (vs : List Va) (us : List Value) : Prop := ∃ ys : List V, Vals ys us ∧ ∀ m H, Reps K m H vs ys
theorem cr_int {i : Int} {t : Tok} : CR K (.int i) (.int i t) := ⟨.int i, ⟨t, rfl⟩, fun _ _ => .int i⟩
theorem cr_str {x : Str} {t : Tok} : CR K (.str x) (.str x t) := ⟨.str x, ⟨t, rfl⟩, fun _ _ => .str x⟩
theorem cr_none : CR K .none .none := ⟨.non, rfl, fun _ _ => .non⟩
theorem cr_nil : CRs K [] [] := ⟨[], .nil, fun _ _ => .nil⟩
theorem cr_cons {v : Va} {vs : List Va} {u : Value} {us : List Value} (h : CR K v u) (r : CRs K vs us) : CRs K (v :: vs) (u :: us) := let ⟨y, h1, h2⟩ := h; let ⟨ys, h3, h4⟩ := r; ⟨y :: ys, .cons h1 h3, fun m H => .cons (h2 m H) (h4 m H)⟩
theorem cr_tup {a : Addr} {its : Array Value} {n : Nat} {sl : Array (Option Value)} {vs : List Va} (h : K.lookup a = some ⟨.type "tuple", none, .seq its n, sl⟩) (hz : its.size ≤ sizeLine) (r : CRs K vs its.toList) : CR K (.tup vs) (.ref a) := let ⟨ys, h3, h4⟩ := r; ⟨.ref a, rfl, fun m H => .tup (Or.inr ⟨_, its, n, h, rfl, rfl, hz, h3, rfl⟩) (h4 m H)⟩
theorem GlobR.mk {x : Str} {v : Va} {u : Value} (h : mg x = some u) (r : CR K v u) : GlobR K mg x v := let ⟨y, h1, h2⟩ := r; ⟨y, u, h, h1, h2⟩
/-- the defaults, as they stand in the def's dict -/
def DkD (K : PySem.W.Frag) (D : Addr) (dk : List (Str × Va)) : Prop := ∃ kws : List (Str × V), kws.map (·.1) = dk.map (·.1) ∧ (∀ m H, Reps K m H (dk.map (·.2)) (kws.map (·.2))) ∧ ∀ q ∈ kws, ∃ u, PySem.W.nsIn K D q.1 = some (some u) ∧ RelV q.2 u
theorem dkd_nil {D : Addr} : DkD K D [] := ⟨[], rfl, fun _ _ => .nil, fun _ h => nomatch h⟩
theorem dkd_cons {D : Addr} {x : Str} {v : Va} {u : Value} {dk : List (Str × Va)} (h : PySem.W.nsIn K D x = some (some u)) (r : CR K v u) (hl : DkD K D dk) : DkD K D ((x, v) :: dk) := by
  obtain ⟨y, h1, h2⟩ := r
  obtain ⟨kws, h3, h4, h5⟩ := hl
  refine ⟨(x, y) :: kws, by simp [h3], fun m H => .cons (h2 m H) (h4 m H), fun q hq => ?_⟩
  rcases List.mem_cons.mp hq with e | e
  · subst e; exact ⟨u, h, h1⟩
  · exact h5 q e
theorem TopV.mk0 {x : Str} {st : Stmt} {f : Addr} {oc : Value} {od an : Option Addr} {osl : Array (Option Value)} {kV doc pm cdv ct : Value} {h : Heap} (X : K.In h) (G : h.Ns mainGlobals mg) (a : PySem.W.nsIn K mainGlobals x = some (some (.ref f)))
    (l : K.lookup f = some ⟨oc, od, .func (PySem.W.fnOf x x (defArgs st) (defBody st) (defScope st) .none kV doc pm an cdv ct), osl⟩) (c : PySem.W.codeIn K cdv x = true) (k : PySem.W.keepIn K (.ref f) = true) : TopV K mg x st [] := TopV.of0 (TB.TopF.mk1 X G a l c k (Or.inl rfl))
theorem TopV.mkD {x : Str} {st : Stmt} {dk : List (Str × Va)} {f D : Addr} {oc : Value} {od an : Option Addr} {osl : Array (Option Value)} {doc pm cdv ct : Value} {h : Heap} (X : K.In h) (G : h.Ns mainGlobals mg) (a : PySem.W.nsIn K mainGlobals x = some (some (.ref f)))
    (l : K.lookup f = some ⟨oc, od, .func (PySem.W.fnOf x x (defArgs st) (defBody st) (defScope st) .none (.ref D) doc pm an cdv ct), osl⟩) (c : PySem.W.codeIn K cdv x = true) (k : PySem.W.keepIn K (.ref f) = true) (hk : DkD K D dk) : TopV K mg x st dk := by
  obtain ⟨kws, h1, h2, h3⟩ := hk
  exact ⟨kws, TB.TopF.mk1 X G a l c k (Or.inr ⟨D, rfl, h3⟩), h1, h2⟩
end
end TV
end
-- VV
section
set_option Elab.async false
set_option linter.all false
set_option maxRecDepth 100000
set_option maxHeartbeats 4000000
/-! VV: str(i). -/
namespace TV
open PySem L2
open TB (Ctx GK)
def strV (_ : So) : List Va → Option Va
  | [.int i] => if i.natAbs.log2 < 1920 then some (.str (toString i)) else none
  | _ => none
section
variable {X : Cx} {P : Program} {w : World} {K : PySem.W.Frag} {mg : Str → Option Value} {base : Heap} {N : List Str} {sc : Scope} {lv : Nat} {e : Expr} {pos p : Pos} {mx : Ax}
theorem sem_str : Sem1 K strV (fun xs H Q => ∃ i, xs = [.int i] ∧ i.natAbs.log2 < 1920 ∧ Q (.str (toString i)) H) := by
  intro m O H xs us w Q f r e k
  unfold strV at e
  split at e
  · split at e
    · rename_i hz
      cases e
      cases r with
      | cons r rr =>
        cases rr; cases r
        exact ⟨_, rfl, hz, k m H _ (Ext.refl _ _) f (.str _)⟩
    · cases e
  · cases e
theorem d_strC (C : Ctx X P w K mg base N sc lv) (hm : mg "str" = none) (ha : PA X [e] (TAm K mx)) (hg : GK sc "str" := by rfl) (h1 : starEach [e] X.env = (false, eval e X.env) :: starEach [] X.env := by rfl) (h2 : (backTo pos (starEach [] X.env)).any (·.1) = false := by rfl) : PE X (.Call (.Name "str" p) [e] [] pos) (TEm K (mCB strV mx)) := by
  have := C.hK; subst this
  exact (pe_callTy call_str_int (C.gl hg) (by rw [C.hmg]; exact hm) (by decide +kernel) ha (by decide) (by decide) h1 h2).weak (t_cb sem_str)
end
end TV
end
-- VU
-- VT
-- VR
-- P0
section
set_option Elab.async false
set_option linter.all false
set_option maxRecDepth 100000
set_option maxHeartbeats 2000000
/-! P0: how the defs are worked out. -/
namespace TV
open PySem L2
open TB (lk pt)
theorem gc_same (O : So) (r : Va) : gc O r O = O := by
  unfold gc
  split
  · exact List.take_length
  · rfl
/-- what a def has made is forgotten -/
theorem gc_app {O N : So} {r : Va} (h : below O.length r = true) : gc O r (O ++ N) = O := by
  unfold gc
  rw [if_pos ⟨h, fun k hk => Or.inl (by rw [List.getElem?_append_left hk])⟩]
  simp
theorem add_ii (O : So) (a b : Int) : addV O (.int a) (.int b) = some (.int (a + b)) := rfl
theorem ix_t0 (O : So) (a : Va) (l : List Va) : ixV O (.tup (a :: l)) (.int 0) = some a := by simp [ixV, asD, asQ, atI, ixN]
theorem ix_t1 (O : So) (a b : Va) (l : List Va) : ixV O (.tup (a :: b :: l)) (.int 1) = some b := by
  have : (1 : Int) < ((l.length : Nat) : Int) + 1 + 1 := by omega
  simp [ixV, asD, asQ, atI, ixN, this]
theorem len_t (O : So) (vs : List Va) : lenV O [.tup vs] = some (.int vs.length) := rfl
theorem kit_ii : kitB "int" "int" = some true := by decide +kernel
theorem kit_ib : kitB "int" "bool" = some false := by decide +kernel
theorem kit_tt : kitB "tuple" "tuple" = some true := by decide +kernel
theorem kit_ss : kitB "str" "str" = some true := by decide +kernel
theorem sl_1 : 1 ≤ sizeLine := by decide
theorem sl_2 : 2 ≤ sizeLine := by decide
theorem sl_3 : 3 ≤ sizeLine := by decide
/-! the rules by which a def is run -/
section
variable {Γ Γ1 Γ2 : Ga} {O O1 O2 O3 O4 : So} {a b c : Ex} {as ks : Ax} {v x y z : Va} {xs ys : List Va} {t u : Tx} {p q : Bool} {s1 s2 : Sm} {r : Option (Fl × So)}
theorem r_var {i : Nat} (h : Γ[i]? = some (some v)) : mVar i Γ O = some (v, O) := by unfold mVar; rw [h]
theorem r_c : mC v Γ O = some (v, O) := rfl
theorem r_op {f : So → Va → Va → Option Va} (h1 : a Γ O = some (x, O1)) (h2 : b Γ O1 = some (y, O2)) (h3 : f O2 x y = some v) : mOp f a b Γ O = some (v, O2) := by unfold mOp; rw [h1]; simp only [h2, h3]
theorem r_un {f : So → Va → Option Va} (h1 : a Γ O = some (x, O1)) (h3 : f O1 x = some v) : mUn f a Γ O = some (v, O1) := by unfold mUn; rw [h1]; simp only [h3]
theorem r_nil : aNil Γ O = some ([], O) := rfl
theorem r_cons (h1 : a Γ O = some (x, O1)) (h2 : as Γ O1 = some (xs, O2)) : aCons a as Γ O = some (x :: xs, O2) := by unfold aCons; rw [h1]; simp only [h2]
theorem r_cb {f : So → List Va → Option Va} (h1 : as Γ O = some (xs, O1)) (h2 : f O1 xs = some v) : mCB f as Γ O = some (v, O1) := by unfold mCB; rw [h1]; simp only [h2]
theorem r_tup (h1 : as Γ O = some (xs, O1)) (h2 : xs.length ≤ sizeLine) : mTup as Γ O = some (.tup xs, O1) := by unfold mTup; rw [h1]; simp only [h2, if_true]
theorem r_lst (h1 : as Γ O = some (xs, O1)) (h2 : xs.length ≤ sizeLine) : mLst as Γ O = some (.lst xs, O1) := by unfold mLst; rw [h1]; simp only [h2, if_true]
theorem r_trL (h : a Γ O = some (.lst xs, O1)) : mTr a Γ O = some (.ref O1.length, O1 ++ [.lst xs]) := by unfold mTr; rw [h]
theorem r_trD {kvs : List (Key × Va)} (h : a Γ O = some (.dct kvs, O1)) : mTr a Γ O = some (.ref O1.length, O1 ++ [.dct kvs]) := by unfold mTr; rw [h]
theorem r_b (h : a Γ O = some (.bool p, O1)) : mB a Γ O = some (p, O1) := by unfold mB; rw [h]
theorem r_andT (h1 : a Γ O = some (.bool true, O1)) (h2 : b Γ O1 = some (v, O2)) : mAnd a b Γ O = some (v, O2) := by unfold mAnd; rw [h1]; exact h2
theorem r_not (h : a Γ O = some (.bool p, O1)) : mNot a Γ O = some (.bool (!p), O1) := by unfold mNot; rw [h]
theorem r_tand1 (h1 : t Γ O = some (true, O1)) (h2 : u Γ O1 = some (p, O2)) : tAnd t u Γ O = some (p, O2) := by unfold tAnd; rw [h1]; exact h2
theorem r_tand0 (h1 : t Γ O = some (false, O1)) : tAnd t u Γ O = some (false, O1) := by unfold tAnd; rw [h1]
theorem r_tor1 (h1 : t Γ O = some (true, O1)) : tOr t u Γ O = some (true, O1) := by unfold tOr; rw [h1]
theorem r_tor0 (h1 : t Γ O = some (false, O1)) (h2 : u Γ O1 = some (p, O2)) : tOr t u Γ O = some (p, O2) := by unfold tOr; rw [h1]; exact h2
theorem r_tnot (h : t Γ O = some (p, O1)) : tNot t Γ O = some (!p, O1) := by unfold tNot; rw [h]
theorem r_if1 (h1 : t Γ O = some (true, O1)) (h2 : a Γ O1 = some (v, O2)) : mIf t a b Γ O = some (v, O2) := by unfold mIf; rw [h1]; exact h2
theorem r_if0 (h1 : t Γ O = some (false, O1)) (h2 : b Γ O1 = some (v, O2)) : mIf t a b Γ O = some (v, O2) := by unfold mIf; rw [h1]; exact h2
theorem r_seq (h1 : s1 Γ O = some (.nx Γ1, O1)) (h2 : s2 Γ1 O1 = r) : sSeq s1 s2 Γ O = r := by unfold sSeq; rw [h1]; exact h2
theorem r_seqR (h1 : s1 Γ O = some (.rt v, O1)) : sSeq s1 s2 Γ O = some (.rt v, O1) := by unfold sSeq; rw [h1]
theorem r_ret (h : a Γ O = some (v, O1)) : sRet a Γ O = some (.rt v, O1) := by unfold sRet; rw [h]
theorem r_drop (h : a Γ O = some (v, O1)) : sDrop a Γ O = some (.nx Γ, O1) := by unfold sDrop; rw [h]
theorem r_sif1 (h1 : t Γ O = some (true, O1)) (h2 : s1 Γ O1 = r) : sIf t s1 s2 Γ O = r := by unfold sIf; rw [h1]; exact h2
theorem r_sif0 (h1 : t Γ O = some (false, O1)) (h2 : s2 Γ O1 = r) : sIf t s1 s2 Γ O = r := by unfold sIf; rw [h1]; exact h2
theorem r_next : sNext Γ O = some (.nx Γ, O) := rfl
theorem r_asg {g : Tg} (h1 : a Γ O = some (v, O1)) (h2 : g v Γ = some Γ1) : sAsg a g Γ O = some (.nx Γ1, O1) := by unfold sAsg; rw [h1]; simp only [h2]
theorem r_asgN {i : Nat} (h1 : a Γ O = some (v, O1)) : sAsg a (gN i) Γ O = some (.nx (Γ.set i (some v)), O1) := r_asg h1 rfl
theorem r_par {i j : Nat} (h : as Γ O = some ([x, y], O1)) : sPar i j as Γ O = some (.nx ((Γ.set i (some x)).set j (some y)), O1) := by unfold sPar; rw [h]
theorem r_par3 {i j k : Nat} (h : as Γ O = some ([x, y, z], O1)) : sPar3 i j k as Γ O = some (.nx (((Γ.set i (some x)).set j (some y)).set k (some z)), O1) := by unfold sPar3; rw [h]
theorem r_it (h1 : a Γ O = some (v, O1)) (h2 : itemsOf v = some xs) : mIt a Γ O = some (xs, O1) := by unfold mIt; rw [h1]; simp only [h2]
theorem r_x {f : List Va → Option (List Va)} (h1 : as Γ O = some (xs, O1)) (h2 : f xs = some ys) : xArg f as Γ O = some (ys, O1) := by unfold xArg; rw [h1]; simp only [h2]
theorem r_for {g : Tg} (h1 : as Γ O = some (xs, O1)) (h2 : forL g s1 xs Γ O1 = r) : sFor as g s1 Γ O = r := by unfold sFor; rw [h1]; exact h2
theorem r_lc {vs : List Nat} {g : Tg} (h1 : as Γ O = some (xs, O1)) (h2 : xs.length ≤ sizeLine) (h3 : lcL g t a (wipeA Γ vs) xs [] O1 = some (ys, O2)) : mLc vs as g t a Γ O = some (.lst ys, O2) := by unfold mLc; rw [h1]; simp only [h2, if_true, h3]
theorem r_dc {vs : List Nat} {g : Tg} {kvs : List (Key × Va)} (h1 : as Γ O = some (xs, O1)) (h2 : xs.length ≤ sizeLine) (h3 : dcL g t a b (wipeA Γ vs) xs [] O1 = some (kvs, O2)) : mDc vs as g t a b Γ O = some (.dct kvs, O2) := by unfold mDc; rw [h1]; simp only [h2, if_true, h3]
theorem r_call {F : Fn} {ds : List Va} (h1 : as Γ O = some (xs, O1)) (h2 : F (xs ++ ds) O1 = some (v, O2)) : mCall F ds as Γ O = some (v, O2) := by unfold mCall; rw [h1]; exact h2
theorem r_call0 {F : Fn} (h1 : as Γ O = some (xs, O1)) (h2 : F xs O1 = some (v, O2)) : mCall F [] as Γ O = some (v, O2) := r_call h1 (by rw [List.append_nil]; exact h2)
theorem r_callN {F : Fn} {n k : Nat} {g : List Va → List Va → List Va} (h1 : as Γ O = some (xs, O1)) (h2 : ks Γ O1 = some (ys, O2)) (h3 : xs.length = n ∧ ys.length = k) (h4 : F (g xs ys) O2 = some (v, O3)) : mCallN F n k g as ks Γ O = some (v, O3) := by unfold mCallN; rw [h1]; simp only [h2, h3, and_self, if_true]; exact h4
theorem r_setI {o i e : Ex} (h1 : e Γ O = some (x, O1)) (h2 : o Γ O1 = some (y, O2)) (h3 : i Γ O2 = some (z, O3)) (h4 : setV O3 y z x = some O4) : sSetI o i e Γ O = some (.nx Γ, O4) := by unfold sSetI; rw [h1]; simp only [h2, h3, h4]
theorem r_meth {f : So → Nat → List Va → Option (Va × So)} {n : Nat} {ws : List Va} (h1 : a Γ O = some (.ref n, O1)) (h2 : O1[n]? = some (.lst ws)) (h3 : as Γ O1 = some (xs, O2)) (h4 : f O2 n xs = some (v, O3)) : mMeth f a as Γ O = some (v, O3) := by unfold mMeth; rw [h1]; simp only [h2, h3, h4]
theorem r_fz {f : Va → So → Option (Va × So)} {i : Nat} (h1 : Γ[i]? = some (some x)) (h2 : f x O = some (y, O1)) : sFz f i Γ O = some (.nx (Γ.set i (some y)), O1) := by unfold sFz; rw [h1]; simp only [h2]
theorem r_sl {lw hw : Ox} {l h : Option Int} (h1 : a Γ O = some (x, O1)) (h2 : lw Γ O1 = some (l, O2)) (h3 : hw Γ O2 = some (h, O3)) (h4 : slV O3 x l h = some v) : mSl a lw hw Γ O = some (v, O3) := by unfold mSl; rw [h1]; simp only [h2, h3, h4]
theorem r_none : mNone Γ O = some (none, O) := rfl
theorem r_some {i : Int} (h : a Γ O = some (.int i, O1)) : mSome a Γ O = some (some i, O1) := by unfold mSome; rw [h]
theorem r_chain1 {f g : So → Va → Va → Option Va} (h1 : a Γ O = some (x, O1)) (h2 : b Γ O1 = some (y, O2)) (h3 : f O2 x y = some (.bool true)) (h4 : c Γ O2 = some (z, O3)) (h5 : g O3 y z = some v) : mChain f g a b c Γ O = some (v, O3) := by unfold mChain; rw [h1]; simp only [h2, h3, h4, h5]
/-- a def's end -/
theorem r_fn {np n : Nat} {args : List Va} (hl : args.length = np) (h : s1 (start n args) O = some (.rt v, O1)) : fn np n s1 args O = some (v, gc O v O1) := by unfold fn; rw [if_pos hl, h]
theorem r_fn0 {np n : Nat} {args : List Va} (hl : args.length = np) (h : s1 (start n args) O = some (.rt v, O)) : fn np n s1 args O = some (v, O) := by rw [r_fn hl h, gc_same]
theorem r_fnN {np n : Nat} {args : List Va} (hl : args.length = np) (h : s1 (start n args) O = some (.nx Γ, O1)) : fn np n s1 args O = some (.none, gc O .none O1) := by unfold fn; rw [if_pos hl, h]
theorem r_fnN0 {np n : Nat} {args : List Va} (hl : args.length = np) (h : s1 (start n args) O = some (.nx Γ, O)) : fn np n s1 args O = some (.none, O) := by rw [r_fnN hl h, gc_same]
end
theorem st_last {O : So} {x : Ob} : (O ++ [x])[O.length]? = some x := by simp
/-! loops -/
theorem forL_cons {g : Tg} {b : Sm} {x : Va} {xs : List Va} {Γ Γ1 Γ2 : Ga} {O O2 : So} (h1 : g x Γ = some Γ1) (h2 : b Γ1 O = some (.nx Γ2, O2)) : forL g b (x :: xs) Γ O = forL g b xs Γ2 O2 := by
  rw [forL, h1]
  simp only [h2]
theorem forL_inv {g : Tg} {b : Sm} {α : Type} {h : α → Va} (P : Nat → Ga → So → Prop) : ∀ (xs : List α) (k : Nat) (Γ : Ga) (O : So), P k Γ O → (∀ i x Γ O, xs[i]? = some x → P (k + i) Γ O → ∃ Γ1 Γ2 O2, g (h x) Γ = some Γ1 ∧ b Γ1 O = some (.nx Γ2, O2) ∧ P (k + i + 1) Γ2 O2) →
    ∃ Γ' O', forL g b (xs.map h) Γ O = some (.nx Γ', O') ∧ P (k + xs.length) Γ' O'
  | [], k, Γ, O, p, _ => ⟨Γ, O, rfl, p⟩
  | x :: xs, k, Γ, O, p, st => by
    obtain ⟨Γ1, Γ2, O2, h1, h2, p2⟩ := st 0 x Γ O rfl p
    obtain ⟨Γ', O', h3, p3⟩ := forL_inv P xs (k + 1) Γ2 O2 p2 fun i y Γ O e q => by
      have := st (i + 1) y Γ O (by simpa using e) (by rw [show k + (i + 1) = k + 1 + i by omega]; exact q)
      rwa [show k + (i + 1) + 1 = k + 1 + i + 1 by omega] at this
    refine ⟨Γ', O', ?_, by rw [List.length_cons, show k + (xs.length + 1) = k + 1 + xs.length by omega]; exact p3⟩
    rw [List.map_cons, forL_cons h1 h2]
    exact h3
theorem for_inv {g : Tg} {b : Sm} {α : Type} {h : α → Va} (P : Nat → Ga → So → Prop) {xs : List α} {Γ : Ga} {O : So} (h0 : P 0 Γ O) (st : ∀ i x Γ O, xs[i]? = some x → P i Γ O → ∃ Γ1 Γ2 O2, g (h x) Γ = some Γ1 ∧ b Γ1 O = some (.nx Γ2, O2) ∧ P (i + 1) Γ2 O2) :
    ∃ Γ' O', forL g b (xs.map h) Γ O = some (.nx Γ', O') ∧ P xs.length Γ' O' := by
  have := forL_inv (g := g) (b := b) (h := h) P xs 0 Γ O h0 fun i x Γ O e p => by
    rw [Nat.zero_add] at p ⊢
    exact st i x Γ O e p
  rwa [Nat.zero_add] at this
/-- a loop whose body changes nothing that counts -/
theorem forL_same {g : Tg} {b : Sm} {O : So} (P : Ga → Prop) : ∀ (xs : List Va) (Γ : Ga), P Γ → (∀ x ∈ xs, ∀ Γ, P Γ → ∃ Γ1 Γ2, g x Γ = some Γ1 ∧ b Γ1 O = some (.nx Γ2, O) ∧ P Γ2) → ∃ Γ', forL g b xs Γ O = some (.nx Γ', O) ∧ P Γ'
  | [], Γ, p, _ => ⟨Γ, rfl, p⟩
  | x :: xs, Γ, p, st => by
    obtain ⟨Γ1, Γ2, h1, h2, p2⟩ := st x List.mem_cons_self Γ p
    obtain ⟨Γ', h3, p3⟩ := forL_same P xs Γ2 p2 fun y hy => st y (List.mem_cons_of_mem _ hy)
    exact ⟨Γ', by rw [forL_cons h1 h2]; exact h3, p3⟩
/-- a list comprehension of data -/
theorem lcL_map {α : Type} {g : Tg} {t : Tx} {e : Ex} {Γ : Ga} {O : So} {h r : α → Va} : ∀ (xs : List α) (acc : List Va), (∀ x ∈ xs, ∃ Γ1, g (h x) Γ = some Γ1 ∧ t Γ1 O = some (true, O) ∧ e Γ1 O = some (r x, O)) → lcL g t e Γ (xs.map h) acc O = some (acc ++ xs.map r, O)
  | [], acc, _ => by simp [lcL]
  | x :: xs, acc, st => by
    obtain ⟨Γ1, h1, h2, h3⟩ := st x List.mem_cons_self
    rw [List.map_cons, lcL, h1]
    simp only [h2, h3]
    rw [lcL_map xs _ fun y hy => st y (List.mem_cons_of_mem _ hy)]
    simp
theorem lcL_filter {α : Type} {g : Tg} {t : Tx} {e : Ex} {Γ : Ga} {O : So} {h r : α → Va} {p : α → Bool} : ∀ (xs : List α) (acc : List Va), (∀ x ∈ xs, ∃ Γ1, g (h x) Γ = some Γ1 ∧ t Γ1 O = some (p x, O) ∧ (p x = true → e Γ1 O = some (r x, O))) → lcL g t e Γ (xs.map h) acc O = some (acc ++ (xs.filter p).map r, O)
  | [], acc, _ => by simp [lcL]
  | x :: xs, acc, st => by
    obtain ⟨Γ1, h1, h2, h3⟩ := st x List.mem_cons_self
    have ih := fun acc => lcL_filter xs acc fun y hy => st y (List.mem_cons_of_mem _ hy)
    rw [List.map_cons, lcL, h1]
    cases hp : p x with
    | true => rw [hp] at h2; simp only [h2, h3 hp]; rw [ih]; simp [hp]
    | false => rw [hp] at h2; simp only [h2]; rw [ih]; simp [hp]
/-- Euclid's loop -/
theorem euclid {i j : Nat} {c : Tx} (hij : i ≠ j) (hc : ∀ (Γ : Ga) (O : So) (y : Int), Γ[j]? = some (some (.int y)) → 0 ≤ y → c Γ O = some (decide (y ≠ 0), O)) : ∀ (n : Nat) (a b : Int) (Γ : Ga) (O : So), 0 ≤ a → 0 ≤ b → b.natAbs < n → Γ[i]? = some (some (.int a)) → Γ[j]? = some (some (.int b)) →
    whN c (sPar i j (aCons (mVar j) (aCons (mOp modV (mVar i) (mVar j)) aNil))) n Γ O = some (.nx ((Γ.set i (some (.int (Int.gcd a b)))).set j (some (.int 0))), O)
  | 0, a, b, Γ, O, ha, hb, hn, h1, h2 => by omega
  | n + 1, a, b, Γ, O, ha, hb, hn, h1, h2 => by
    have li : i < Γ.length := (List.getElem?_eq_some_iff.mp h1).1
    have lj : j < Γ.length := (List.getElem?_eq_some_iff.mp h2).1
    rw [whN, hc Γ O b h2 hb]
    by_cases h0 : b = 0
    · subst h0
      simp only [ne_eq, not_true_eq_false, decide_false, Int.gcd_zero]
      congr 3
      have e1 : (a.natAbs : Int) = a := by omega
      rw [e1]
      apply List.ext_getElem?
      intro k
      rw [List.getElem?_set]
      split
      · rename_i e; subst e; rw [h2, if_pos (by simpa using lj)]
      · rw [List.getElem?_set]
        split
        · rename_i e; subst e; first | (rw [h1, if_pos (by simpa using li)]; done) | (rw [h1]; done) | simp [h1, li]
        · rfl
    · have e2 : decide (b ≠ 0) = true := by simpa using h0
      rw [e2]
      have hb0 : 0 < b := by omega
      have hm := Int.emod_lt_of_pos a hb0
      have hm0 := Int.emod_nonneg a h0
      have hs : sPar i j (aCons (mVar j) (aCons (mOp modV (mVar i) (mVar j)) aNil)) Γ O = some (.nx ((Γ.set i (some (.int b))).set j (some (.int (a % b)))), O) := by
        simp [sPar, aCons, aNil, mVar, mOp, modV, h1, h2, hb0]
      simp only [hs]
      rw [euclid hij hc n b (a % b) _ O hb hm0 (by omega) (by rw [List.getElem?_set_ne (Ne.symm hij), List.getElem?_set_self (by simpa using li)]) (by rw [List.getElem?_set_self (by simpa using lj)])]
      rw [TB.gcd_turn ha hb]
      congr 3
      first | (rw [List.set_comm _ _ hij, List.set_set]; done) | (rw [List.set_comm _ _ hij, List.set_set, List.set_comm _ _ (Ne.symm hij), List.set_set]; done) | (rw [List.set_comm _ _ (Ne.symm hij), List.set_set]; done) | simp [List.set_comm _ _ hij]
/-- two fors, over data -/
theorem lcM_map {α β : Type} {vs1 : List Nat} {g g1 : Tg} {t t1 : Tx} {it1 : Ax} {e : Ex} {Γ : Ga} {O : So} {h : α → Va} {k : β → Va} {ys : α → List β} {r : α → β → Va} : ∀ (xs : List α) (acc : List Va),
    (∀ x ∈ xs, ∃ Γ1, g (h x) Γ = some Γ1 ∧ t Γ1 O = some (true, O) ∧ it1 Γ1 O = some ((ys x).map k, O) ∧ ∀ y ∈ ys x, ∃ Γ2, g1 (k y) (wipeA Γ1 vs1) = some Γ2 ∧ t1 Γ2 O = some (true, O) ∧ e Γ2 O = some (r x y, O)) →
    lcM vs1 g t it1 g1 t1 e Γ (xs.map h) acc O = some (acc ++ xs.flatMap fun x => (ys x).map (r x), O)
  | [], acc, _ => by simp [lcM]
  | x :: xs, acc, st => by
    obtain ⟨Γ1, h1, h2, h3, h4⟩ := st x List.mem_cons_self
    rw [List.map_cons, lcM, h1]
    simp only [h2, h3]
    rw [lcL_map (ys x) acc h4]
    simp only []
    rw [lcM_map xs _ fun y hy => st y (List.mem_cons_of_mem _ hy)]
    simp
theorem r_lc2 {vs vs1 : List Nat} {as as1 : Ax} {g g1 : Tg} {t t1 : Tx} {a : Ex} {Γ : Ga} {O O1 O2 : So} {xs ys : List Va} (h1 : as Γ O = some (xs, O1)) (h3 : lcM vs1 g t as1 g1 t1 a (wipeA Γ vs) xs [] O1 = some (ys, O2)) (h2 : ys.length ≤ sizeLine) : mLc2 vs vs1 as g t as1 g1 t1 a Γ O = some (.lst ys, O2) := by unfold mLc2; rw [h1]; simp only [h3, h2, if_true]
theorem ix_get {O : So} {vs : List Va} {j : Nat} {v : Va} (h : vs[j]? = some v) : ixV O (.tup vs) (.int (j : Int)) = some v := by
  have hj := (List.getElem?_eq_some_iff.mp h).1
  have h1 : (0 : Int) ≤ (j : Int) := by omega
  have h2 : (j : Int) < (vs.length : Int) := by omega
  simp [ixV, asD, asQ, atI, ixN, h2, h]
theorem mem_enum {α : Type} {f : α → Va} {xs : List α} {x : Va} (h : x ∈ (xs.map f).mapIdx fun i x => Va.tup [.int (i : Int), x]) : ∃ (i : Nat) (p : α), xs[i]? = some p ∧ x = .tup [.int (i : Int), f p] := by
  obtain ⟨i, hi⟩ := List.mem_iff_getElem?.mp h
  rw [List.getElem?_mapIdx, List.getElem?_map] at hi
  cases hp : xs[i]? with
  | none => rw [hp] at hi; cases hi
  | some p => rw [hp] at hi; cases hi; exact ⟨i, p, hp, rfl⟩
theorem boolsOf_map' {α : Type} (f : α → Bool) : ∀ xs : List α, boolsOf (xs.map fun x => Va.bool (f x)) = some (xs.map f)
  | [] => rfl
  | b :: bs => by simp [boolsOf, boolOf, boolsOf_map' f bs]
end TV
end
local macro_rules | `(tactic| walk_at "tv go") => `(tactic| repeat (first | exact TV.r_c | exact TV.r_nil | exact TV.r_next | exact TV.r_none | exact TV.r_var rfl | with_reducible refine TV.r_op ?_ ?_ ?_ | with_reducible refine TV.r_un ?_ ?_ | with_reducible refine TV.r_cons ?_ ?_ | with_reducible refine TV.r_cb ?_ ?_ | with_reducible refine TV.r_tup ?_ (by decide) | with_reducible refine TV.r_lst ?_ (by decide) | with_reducible refine TV.r_b ?_ | with_reducible refine TV.r_not ?_ | with_reducible refine TV.r_tnot ?_ | with_reducible refine TV.r_seq ?_ ?_ | with_reducible refine TV.r_ret ?_ | with_reducible refine TV.r_drop ?_ | with_reducible refine TV.r_asgN ?_ | with_reducible refine TV.r_asg ?_ ?_ | with_reducible refine TV.r_par ?_ | with_reducible refine TV.r_par3 ?_ | with_reducible refine TV.r_it ?_ ?_ | with_reducible refine TV.r_x ?_ ?_ | with_reducible refine TV.r_for ?_ ?_ | with_reducible refine TV.r_call0 ?_ ?_ | with_reducible refine TV.r_call ?_ ?_ | with_reducible refine TV.r_callN ?_ ?_ ?_ ?_ | with_reducible refine TV.r_setI ?_ ?_ ?_ ?_ | with_reducible refine TV.r_sl ?_ ?_ ?_ ?_ | with_reducible refine TV.r_some ?_ | exact TV.add_ii _ _ _ | exact TV.ix_t0 _ _ _ | exact TV.ix_t1 _ _ _ _ | exact TV.len_t _ _ | with_reducible assumption | exact ⟨rfl, rfl⟩ | exact rfl))
local macro_rules | `(tactic| walk_at "tv gt") => `(tactic| repeat (first | with_reducible refine TV.r_tup ?_ ?_ | with_reducible refine TV.r_lst ?_ ?_ | exact TV.r_c | exact TV.r_nil | exact TV.r_next | exact TV.r_none | exact TV.r_var rfl | with_reducible refine TV.r_op ?_ ?_ ?_ | with_reducible refine TV.r_un ?_ ?_ | with_reducible refine TV.r_cons ?_ ?_ | with_reducible refine TV.r_cb ?_ ?_ | with_reducible refine TV.r_tup ?_ (by decide) | with_reducible refine TV.r_lst ?_ (by decide) | with_reducible refine TV.r_b ?_ | with_reducible refine TV.r_not ?_ | with_reducible refine TV.r_tnot ?_ | with_reducible refine TV.r_seq ?_ ?_ | with_reducible refine TV.r_ret ?_ | with_reducible refine TV.r_drop ?_ | with_reducible refine TV.r_asgN ?_ | with_reducible refine TV.r_asg ?_ ?_ | with_reducible refine TV.r_par ?_ | with_reducible refine TV.r_par3 ?_ | with_reducible refine TV.r_it ?_ ?_ | with_reducible refine TV.r_x ?_ ?_ | with_reducible refine TV.r_for ?_ ?_ | with_reducible refine TV.r_call0 ?_ ?_ | with_reducible refine TV.r_call ?_ ?_ | with_reducible refine TV.r_callN ?_ ?_ ?_ ?_ | with_reducible refine TV.r_setI ?_ ?_ ?_ ?_ | with_reducible refine TV.r_sl ?_ ?_ ?_ ?_ | with_reducible refine TV.r_some ?_ | exact TV.add_ii _ _ _ | exact TV.ix_t0 _ _ _ | exact TV.ix_t1 _ _ _ _ | exact TV.len_t _ _ | with_reducible assumption | exact ⟨rfl, rfl⟩ | exact rfl | (simp only [List.length_cons, List.length_nil]; decide)))
-- P1
section
set_option Elab.async false
set_option linter.all false
set_option maxRecDepth 100000
set_option maxHeartbeats 2000000
/-! P1: boards. -/
namespace TV
open PySem L2
open TB (lk pt)
abbrev Bd := List (Str × List Str)
def tupS (l : List Str) : Va := .tup (l.map Va.str)
def itV (p : Str × List Str) : Va := .tup [.str p.1, tupS p.2]
def bdV (B : Bd) : Va := .tup (B.map itV)
def nms (B : Bd) : List Str := B.map (·.1)
def lo (B : Bd) (c : Str) : List Str := ((B.find? fun p => decide (p.1 = c)).map (·.2)).getD []
def up (B : Bd) (c : Str) : List Str := (B.filter fun p => decide (c ∈ p.2)).map (·.1)
def letters : List Nat := ("abcdefghijklmnopqrstuvwxyz" : Str).cps.toList
def signs : List Nat := ("abcdefghijklmnopqrstuvwxyz" : Str).cps.toList ++ ("0123456789" : Str).cps.toList
def cellOk (x : Str) : Prop := ∃ c cs, x.cps.toList = c :: cs ∧ cs.length ≤ 7 ∧ c ∈ letters ∧ ∀ d ∈ c :: cs, d ∈ signs
def sLt (x y : Str) : Prop := ltS x y = true
theorem sLt.iff {x y : Str} : sLt x y ↔ x.cps.toList < y.cps.toList := by unfold sLt ltS; simp
theorem sLt.irr (x : Str) : ¬ sLt x x := by rw [sLt.iff]; exact List.lt_irrefl _
theorem sLt.trans {x y z : Str} (h : sLt x y) (k : sLt y z) : sLt x z := by rw [sLt.iff] at *; exact List.lt_trans h k
theorem sLt.ne {x y : Str} (h : sLt x y) : x ≠ y := fun e => by subst e; exact sLt.irr _ h
theorem cut1 {α : Type} (xs : List α) : cut xs (some 1) none = xs.drop 1 := by
  unfold cut
  have h1 : HT.sIx xs.length 0 (some 1) = min 1 xs.length := HT.sIx_nat xs.length 0 1
  have h2 : HT.sIx xs.length xs.length none = xs.length := rfl
  rw [h1, h2]
  cases xs with
  | nil => rfl
  | cons a l => rw [show min 1 (a :: l).length = 1 by simp]; exact List.take_of_length_le (by simp)
theorem zip_map {α β : Type} (f : α → Va) (g : β → Va) : ∀ (l : List α) (m : List β), List.zipWith (fun x y => Va.tup [x, y]) (l.map f) (m.map g) = (l.zip m).map fun p => Va.tup [f p.1, g p.2]
  | [], m => by simp
  | a :: l, [] => by simp
  | a :: l, b :: m => by simp [zip_map f g l m]
theorem pw_zip {α : Type} {R : α → α → Prop} : ∀ {l : List α}, l.Pairwise R → ∀ p ∈ l.zip (l.drop 1), R p.1 p.2
  | [], _, p, hp => by simp at hp
  | [a], _, p, hp => by simp at hp
  | a :: b :: l, h, p, hp => by
    rw [List.drop_succ_cons, List.drop_zero, List.zip_cons_cons] at hp
    rw [List.pairwise_cons] at h
    rcases List.mem_cons.mp hp with e | e
    · subst e; exact h.1 b List.mem_cons_self
    · exact pw_zip h.2 p (by simpa using e)
theorem len36 {n : Nat} (h : n ≤ 36) : n ≤ sizeLine := by have : 36 ≤ sizeLine := by decide
                                                          omega
theorem all_true {α : Type} (O : So) (xs : List α) : allV O [.lst (xs.map fun _ => .bool true)] = some (.bool true) := by
  have h := boolsOf_map' (fun _ : α => true) xs
  simp only [allV, asL, Option.bind_some, h, Option.map_some]
  simp
theorem all_false {α : Type} (O : So) (xs : List α) : anyV O [.lst (xs.map fun _ => .bool false)] = some (.bool false) := by
  have h := boolsOf_map' (fun _ : α => false) xs
  simp only [anyV, asL, Option.bind_some, h, Option.map_some]
  simp
/-- a board; L: what lies below -/
structure BOk (B : Bd) (L : Str → Str → Prop) : Prop where
  small : B.length ≤ 36
  cell : ∀ p ∈ B, cellOk p.1
  asc : (nms B).Pairwise sLt
  low : ∀ p ∈ B, ∀ d ∈ p.2, d ∈ nms B
  lasc : ∀ p ∈ B, p.2.Pairwise sLt
  below : ∀ p ∈ B, ∀ d ∈ p.2, L p.1 d
  trans : ∀ c d e, L c d → e ∈ lo B d → L c e
  irr : ∀ p ∈ B, ¬ L p.1 p.1
  red : ∀ p ∈ B, ∀ d ∈ p.2, ∀ e ∈ p.2, ¬ L e d
section
variable {B : Bd} {L : Str → Str → Prop}
theorem pw_nodup {l : List Str} (h : l.Pairwise sLt) : l.Nodup := h.imp fun h => h.ne
theorem BOk.nd (h : BOk B L) : (nms B).Nodup := pw_nodup h.asc
theorem mem_nms {c : Str} (h : c ∈ nms B) : ∃ p ∈ B, p.1 = c := by
  obtain ⟨p, hp, e⟩ := List.mem_map.mp h
  exact ⟨p, hp, e⟩
theorem find_of (nd : (nms B).Nodup) {p : Str × List Str} (hp : p ∈ B) : B.find? (fun q => decide (q.1 = p.1)) = some p := by
  induction B with
  | nil => cases hp
  | cons q B ih =>
    simp only [nms, List.map_cons, List.nodup_cons] at nd
    rw [List.find?_cons]
    by_cases e : q.1 = p.1
    · simp only [e, decide_true]
      rcases List.mem_cons.mp hp with h | h
      · rw [h]
      · exact absurd (List.mem_map.mpr ⟨p, h, e.symm⟩) nd.1
    · simp only [e, decide_false]
      rcases List.mem_cons.mp hp with h | h
      · exact absurd (by rw [h]) e
      · exact ih nd.2 h
theorem lo_of (nd : (nms B).Nodup) {p : Str × List Str} (hp : p ∈ B) : lo B p.1 = p.2 := by unfold lo; rw [find_of nd hp]; rfl
/-- a dict by the names of a board -/
def dB (B : Bd) (f : Str × List Str → Va) : List (Key × Va) := B.map fun p => (.inr p.1, f p)
theorem lk_dB {f : Str × List Str → Va} (nd : (nms B).Nodup) {p : Str × List Str} (hp : p ∈ B) : lk (dB B f) (.inr p.1) = some (f p) := by
  unfold lk dB
  rw [List.find?_map]
  have e : ((fun q : Key × Va => decide (q.1 = (Sum.inr p.1 : Key))) ∘ fun q : Str × List Str => ((Sum.inr q.1 : Key), f q)) = fun q => decide (q.1 = p.1) := by
    funext q
    simp
  rw [e, find_of nd hp]
  rfl
theorem lk_none {α : Type} {l : List (Key × α)} {k : Key} (h : ∀ q ∈ l, q.1 ≠ k) : lk l k = none := by
  unfold lk
  rw [List.find?_eq_none.mpr (by simpa using fun a b hq => h (a, b) hq)]
  rfl
theorem lk_isSome {α : Type} {l : List (Key × α)} {k : Key} (h : ∃ q ∈ l, q.1 = k) : (lk l k).isSome = true := by
  unfold lk
  obtain ⟨q, hq, e⟩ := h
  cases hf : l.find? fun p => decide (p.1 = k) with
  | some r => rfl
  | none =>
    have := List.find?_eq_none.mp hf q hq
    simp [e] at this
theorem mem_dB {f : Str × List Str → Va} {c : Str} (h : c ∈ nms B) : (lk (dB B f) (.inr c)).isSome = true := by
  obtain ⟨p, hp, rfl⟩ := mem_nms h
  exact lk_isSome ⟨_, List.mem_map.mpr ⟨p, hp, rfl⟩, rfl⟩
/-- pairs with keys that differ make the dict as they stand -/
theorem pt_new {α : Type} {l : List (Key × α)} {k : Key} {v : α} (h : ∀ q ∈ l, q.1 ≠ k) : pt l k v = l ++ [(k, v)] := by
  unfold pt
  rw [if_neg]
  simp only [List.any_eq_true, decide_eq_true_eq, not_exists, not_and]
  exact fun q hq => h q hq
theorem mrg_nodup : ∀ (ps acc : List (Key × Va)), ((acc ++ ps).map (·.1)).Nodup → mrg acc ps = acc ++ ps
  | [], acc, _ => by simp [mrg]
  | (k, v) :: ps, acc, h => by
    have h1 : ∀ q ∈ acc, q.1 ≠ k := fun q hq e => by
      rw [List.map_append, List.nodup_append] at h
      exact h.2.2 q.1 (List.mem_map.mpr ⟨q, hq, rfl⟩) k (by simp) e
    have e : mrg acc ((k, v) :: ps) = mrg (pt acc k v) ps := rfl
    rw [e, pt_new h1, mrg_nodup ps (acc ++ [(k, v)]) (by simpa using h)]
    simp
theorem keys_dB {f : Str × List Str → Va} (nd : (nms B).Nodup) : ((dB B f).map (·.1)).Nodup := by
  unfold dB
  rw [List.map_map]
  have e : ((fun q : Key × Va => q.1) ∘ fun p : Str × List Str => ((Sum.inr p.1 : Key), f p)) = (fun x : Str => (Sum.inr x : Key)) ∘ fun p => p.1 := rfl
  rw [e, ← List.map_map]
  exact List.pairwise_map.mpr (nd.imp fun h e => h (by injection e))
theorem pairsIn_map {α : Type} {f : α → Str} {g : α → Va} : ∀ xs : List α, pairsIn (xs.map fun x => .tup [.str (f x), g x]) = some (xs.map fun x => ((Sum.inr (f x) : Key), g x))
  | [] => rfl
  | x :: xs => by simp [pairsIn, pairOf, keyOf, pairsIn_map xs]
theorem dictV_bd (nd : (nms B).Nodup) (O : So) : dictV O [bdV B] = some (.dct (dB B fun p => tupS p.2)) := by
  have h1 : pairsIn (B.map itV) = some (dB B fun p => tupS p.2) := pairsIn_map (f := fun p : Str × List Str => p.1) (g := fun p => tupS p.2) B
  have h2 := mrg_nodup (dB B fun p => tupS p.2) [] (by simpa using keys_dB nd)
  simp [dictV, bdV, asQ, h1, h2]
/-! what is still to be seen by the search -/
def wt (B : Bd) (r : List Str) : Nat := ((B.filter fun p => decide (p.1 ∉ r)).map fun p => 1 + p.2.length).sum
theorem wt_add (nd : (nms B).Nodup) {r : List Str} {p : Str × List Str} (hp : p ∈ B) (hr : p.1 ∉ r) : wt B (r ++ [p.1]) + (1 + p.2.length) = wt B r := by
  induction B with
  | nil => cases hp
  | cons q B ih =>
    simp only [nms, List.map_cons, List.nodup_cons] at nd
    by_cases e : q.1 = p.1
    · have eq : q = p := by
        rcases List.mem_cons.mp hp with h | h
        · exact h.symm
        · exact absurd (List.mem_map.mpr ⟨p, h, e.symm⟩) nd.1
      subst eq
      have h1 : q.1 ∈ r ++ [q.1] := by simp
      have h2 : wt B (r ++ [q.1]) = wt B r := by
        unfold wt
        congr 2
        apply List.filter_congr
        intro z hz
        have : z.1 ≠ q.1 := fun e => nd.1 (List.mem_map.mpr ⟨z, hz, e⟩)
        simp [this]
      have e1 : wt (q :: B) (r ++ [q.1]) = wt B (r ++ [q.1]) := by unfold wt; rw [List.filter_cons_of_neg (by simpa using h1)]
      have e2 : wt (q :: B) r = 1 + q.2.length + wt B r := by unfold wt; rw [List.filter_cons_of_pos (by simpa using hr)]; simp
      omega
    · have hp' : p ∈ B := by
        rcases List.mem_cons.mp hp with h | h
        · exact absurd (by rw [h]) e
        · exact h
      have ih := ih nd.2 hp'
      by_cases hq : q.1 ∈ r
      · have e1 : wt (q :: B) (r ++ [p.1]) = wt B (r ++ [p.1]) := by unfold wt; rw [List.filter_cons_of_neg (by simp [hq])]
        have e2 : wt (q :: B) r = wt B r := by unfold wt; rw [List.filter_cons_of_neg (by simpa using hq)]
        omega
      · have e1 : wt (q :: B) (r ++ [p.1]) = 1 + q.2.length + wt B (r ++ [p.1]) := by unfold wt; rw [List.filter_cons_of_pos (by simp [hq, e])]; simp
        have e2 : wt (q :: B) r = 1 + q.2.length + wt B r := by unfold wt; rw [List.filter_cons_of_pos (by simpa using hq)]; simp
        omega
theorem sum_le {l : List Nat} {k : Nat} (h : ∀ x ∈ l, x ≤ k) : l.sum ≤ k * l.length := by
  induction l with
  | nil => simp
  | cons a l ih =>
    rw [List.sum_cons, List.length_cons, Nat.mul_succ]
    have := ih fun x hx => h x (List.mem_cons_of_mem _ hx)
    have := h a List.mem_cons_self
    omega
theorem nd_sub_len {α : Type} [DecidableEq α] : ∀ {l m : List α}, l.Nodup → (∀ x ∈ l, x ∈ m) → l.length ≤ m.length
  | [], _, _, _ => Nat.zero_le _
  | a :: l, m, nd, h => by
    rw [List.nodup_cons] at nd
    have ha := h a List.mem_cons_self
    have := nd_sub_len (l := l) (m := m.erase a) nd.2 fun x hx => (List.mem_erase_of_ne (fun e => nd.1 (by rw [← e]; exact hx))).mpr (h x (List.mem_cons_of_mem _ hx))
    rw [List.length_erase_of_mem ha] at this
    have : 0 < m.length := List.length_pos_of_mem ha
    rw [List.length_cons]
    omega
theorem BOk.lowlen (h : BOk B L) {p : Str × List Str} (hp : p ∈ B) : p.2.length ≤ 36 := by
  have h1 : p.2.length ≤ (nms B).length := nd_sub_len (pw_nodup (h.lasc p hp)) (h.low p hp)
  have h2 : (nms B).length = B.length := List.length_map ..
  have := h.small
  omega
theorem BOk.wt_le (h : BOk B L) (r : List Str) : wt B r ≤ 37 * 36 := by
  unfold wt
  have h1 := sum_le (l := (B.filter fun p => decide (p.1 ∉ r)).map fun p => 1 + p.2.length) (k := 37) fun x hx => by
    obtain ⟨p, hp, rfl⟩ := List.mem_map.mp hx
    have := h.lowlen ((List.mem_filter.mp hp).1)
    omega
  rw [List.length_map] at h1
  have h2 : (B.filter fun p => decide (p.1 ∉ r)).length ≤ B.length := List.length_filter_le ..
  have h3 := h.small
  have : 37 * (B.filter fun p => decide (p.1 ∉ r)).length ≤ 37 * 36 := Nat.mul_le_mul_left _ (by omega)
  omega
end
/-! two followed objects at the store's end -/
section
variable {A : So} {x y z : Ob}
theorem st0 : (A ++ [x, y])[A.length]? = some x := by simp
theorem st1 : (A ++ [x, y])[A.length + 1]? = some y := by simp
theorem stS0 : (A ++ [x, y]).set A.length z = A ++ [z, y] := by simp [List.set_append]
theorem stS1 : (A ++ [x, y]).set (A.length + 1) z = A ++ [x, z] := by simp [List.set_append]
theorem pl_strs (n : Nat) (l : List Str) : plAll n (l.map Va.str) = true := by
  induction l with
  | nil => rfl
  | cons a l ih => simp [plAll, pl, ih]
theorem ne_nil (n : Nat) (l : List Str) (h : (A ++ [x, .lst (l.map Va.str)])[n]? = some (.lst (l.map Va.str))) : neV (A ++ [x, .lst (l.map Va.str)]) (.ref n) (.lst []) = some (.bool (decide (l ≠ []))) := by
  have e : unref (A ++ [x, .lst (l.map Va.str)]) (.ref n) = .lst (l.map Va.str) := by simp only [unref, h]
  have e2 : unref (A ++ [x, .lst (l.map Va.str)]) (.lst []) = .lst [] := rfl
  have e3 : pl 60 (.lst (l.map Va.str)) = true := by rw [pl]; exact pl_strs 59 l
  have e4 : pl 60 (.lst []) = true := rfl
  unfold neV
  rw [e, e2, if_pos ⟨e3, e4⟩]
  cases l with
  | nil => rfl
  | cons a l => rfl
end
theorem dB_take {B : Bd} {f g : Str × List Str → Va} {i : Nat} {p : Str × List Str} (hi : B[i]? = some p) (h : ∀ q ∈ B.take i, f q = g q) : dB (B.take (i + 1)) g = dB (B.take i) f ++ [(.inr p.1, g p)] := by
  unfold dB
  rw [List.take_add_one, hi, Option.toList_some, List.map_append]
  congr 1
  apply List.map_congr_left
  intro q hq
  rw [h q hq]
theorem notin_take {B : Bd} (nd : (nms B).Nodup) {i : Nat} {p : Str × List Str} (hi : B[i]? = some p) : ∀ q ∈ B.take i, q.1 ≠ p.1 := by
  intro q hq e
  obtain ⟨j, hj⟩ := List.mem_iff_getElem?.mp hq
  rw [List.getElem?_take] at hj
  split at hj
  · rename_i hji
    have h1 : (nms B)[j]? = some q.1 := by unfold nms; rw [List.getElem?_map, hj]; rfl
    have h2 : (nms B)[i]? = some p.1 := by unfold nms; rw [List.getElem?_map, hi]; rfl
    have l1 := (List.getElem?_eq_some_iff.mp h1).1
    have l2 := (List.getElem?_eq_some_iff.mp h2).1
    have := List.pairwise_iff_getElem.mp nd j i l1 l2 hji
    have g1 := (List.getElem?_eq_some_iff.mp h1).2
    have g2 := (List.getElem?_eq_some_iff.mp h2).2
    exact this (by rw [g1, g2, e])
  · cases hj
def rK (r : List Str) : List (Key × Va) := r.map fun d => ((Sum.inr d : Key), Va.bool true)
theorem rK_in (r : List Str) (c : Str) : (lk (rK r) (.inr c)).isSome = decide (c ∈ r) := by
  by_cases h : c ∈ r
  · rw [decide_eq_true h]
    exact lk_isSome ⟨_, List.mem_map.mpr ⟨c, h, rfl⟩, rfl⟩
  · rw [decide_eq_false h, lk_none]
    · rfl
    · intro q hq e
      obtain ⟨d, hd, rfl⟩ := List.mem_map.mp hq
      injection e with e
      exact h (by rw [← e]; exact hd)
theorem rK_put {r : List Str} {c : Str} (h : c ∉ r) : pt (rK r) (.inr c) (.bool true) = rK (r ++ [c]) := by
  rw [pt_new]
  · simp [rK]
  · intro q hq e
    obtain ⟨d, hd, rfl⟩ := List.mem_map.mp hq
    injection e with e
    exact h (by rw [← e]; exact hd)
end TV
end
-- P2
section
set_option Elab.async false
set_option linter.all false
set_option maxRecDepth 100000
set_option maxHeartbeats 2000000
/-! P2: a list for each cell, that grows. -/
namespace TV
open PySem L2
open TB (lk pt)
section
variable {B : Bd} {L : Str → Str → Prop}
/-- a dict by the names of a board, by place -/
def dI (B : Bd) (f : Nat → Str × List Str → Va) : List (Key × Va) := B.mapIdx fun i p => (.inr p.1, f i p)
theorem dI_cons (a : Str × List Str) (B : Bd) (f : Nat → Str × List Str → Va) : dI (a :: B) f = (.inr a.1, f 0 a) :: dI B fun i p => f (i + 1) p := by
  unfold dI
  rw [List.mapIdx_cons]
theorem lk_dI : ∀ {B : Bd} {f : Nat → Str × List Str → Va} {j : Nat} {p : Str × List Str}, (nms B).Nodup → B[j]? = some p → lk (dI B f) (.inr p.1) = some (f j p)
  | [], f, j, p, nd, h => by simp at h
  | a :: B, f, j, p, nd, h => by
    simp only [nms, List.map_cons, List.nodup_cons] at nd
    rw [dI_cons, TB.lk_cons]
    cases j with
    | zero => simp at h; subst h; simp
    | succ j =>
      have h' : B[j]? = some p := by simpa using h
      have hp : p ∈ B := List.mem_of_getElem? h'
      have : ¬ ((Sum.inr a.1 : Key) = .inr p.1) := fun e => by injection e with e; exact nd.1 (List.mem_map.mpr ⟨p, hp, e.symm⟩)
      rw [if_neg this]
      exact lk_dI (f := fun i p => f (i + 1) p) nd.2 h'
/-- the lists, at the store's end -/
def lsS (B : Bd) (S : Str → List Str) : So := B.map fun p => .lst ((S p.1).map Va.str)
theorem ls_get {A : So} {S : Str → List Str} {j : Nat} {p : Str × List Str} (h : B[j]? = some p) : (A ++ lsS B S)[A.length + j]? = some (.lst ((S p.1).map Va.str)) := by
  rw [List.getElem?_append_right (by omega)]
  simp [lsS, h]
theorem ls_set {A : So} {S S' : Str → List Str} {j : Nat} {p : Str × List Str} (nd : (nms B).Nodup) (h : B[j]? = some p) (hS : ∀ c, c ≠ p.1 → S' c = S c) : (A ++ lsS B S).set (A.length + j) (.lst ((S' p.1).map Va.str)) = A ++ lsS B S' := by
  rw [List.set_append_right _ _ (by omega), show A.length + j - A.length = j by omega]
  congr 1
  apply List.ext_getElem?
  intro k
  unfold lsS
  rw [List.getElem?_set, List.getElem?_map, List.getElem?_map]
  have hjl := (List.getElem?_eq_some_iff.mp h).1
  split
  · rename_i e
    subst e
    rw [h]
    simp [hjl]
  · rename_i e
    cases hk : B[k]? with
    | none => rfl
    | some q =>
      have : q.1 ≠ p.1 := fun e2 => by
        have h1 : (nms B)[k]? = some q.1 := by unfold nms; rw [List.getElem?_map, hk]; rfl
        have h2 : (nms B)[j]? = some p.1 := by unfold nms; rw [List.getElem?_map, h]; rfl
        have l1 := (List.getElem?_eq_some_iff.mp h1).1
        have l2 := (List.getElem?_eq_some_iff.mp h2).1
        have g1 := (List.getElem?_eq_some_iff.mp h1).2
        have g2 := (List.getElem?_eq_some_iff.mp h2).2
        rcases Nat.lt_or_gt_of_ne e with hlt | hlt
        · exact (List.pairwise_iff_getElem.mp nd j k l2 l1 hlt) (by rw [g1, g2, e2])
        · exact (List.pairwise_iff_getElem.mp nd k j l1 l2 hlt) (by rw [g1, g2, e2])
      simp [hS q.1 this]
theorem up_take {i : Nat} {p : Str × List Str} (hi : B[i]? = some p) (c : Str) : up (B.take (i + 1)) c = up (B.take i) c ++ if c ∈ p.2 then [p.1] else [] := by
  unfold up
  rw [List.take_add_one, hi, Option.toList_some, List.filter_append, List.map_append]
  congr 1
  by_cases h : c ∈ p.2 <;> simp [h]
theorem up_len (c : Str) : (up B c).length ≤ B.length := by
  unfold up
  rw [List.length_map]
  exact List.length_filter_le ..
/-- the two loops that fill the lists -/
theorem fill {A : So} {D : Va} {E : Ex} (h : BOk B L) (hE : ∀ (a b : Option Va) (O : So) (q : Str × List Str) (j : Nat), B[j]? = some q → E [some (bdV B), some D, a, b, some (.str q.1)] O = some (.ref (A.length + j), O)) (x y z : Option Va) :
    ∃ x' y' z', forL (gT (gCs (gN 2) (gCs (gN 3) gNl))) (sFor (mIt (mVar 3)) (gN 4) (sDrop (mMeth appendM E (aCons (mVar 2) aNil)))) (B.map itV) [some (bdV B), some D, x, y, z] (A ++ lsS B fun _ => []) = some (.nx [some (bdV B), some D, x', y', z'], A ++ lsS B (up B)) := by
  obtain ⟨Γ', O', hf, x', y', z', rfl, rfl⟩ := for_inv (g := gT (gCs (gN 2) (gCs (gN 3) gNl))) (h := itV) (b := sFor (mIt (mVar 3)) (gN 4) (sDrop (mMeth appendM E (aCons (mVar 2) aNil)))) (xs := B) (Γ := [some (bdV B), some D, x, y, z]) (O := A ++ lsS B fun _ => [])
    (fun i Γ O' => ∃ x y z : Option Va, Γ = [some (bdV B), some D, x, y, z] ∧ O' = A ++ lsS B (up (B.take i))) ⟨x, y, z, rfl, by rw [show up (B.take 0) = fun _ => [] from by funext c; rfl]⟩ (by
      rintro i p Γ O' hi ⟨x, y, z, rfl, rfl⟩
      have hp : p ∈ B := List.mem_of_getElem? hi
      obtain ⟨Γ2, O2, hf2, z2, rfl, rfl⟩ := for_inv (g := gN 4) (h := Va.str) (b := sDrop (mMeth appendM E (aCons (mVar 2) aNil))) (xs := p.2) (Γ := [some (bdV B), some D, some (.str p.1), some (tupS p.2), z]) (O := A ++ lsS B (up (B.take i)))
        (fun k Γ O' => ∃ z : Option Va, Γ = [some (bdV B), some D, some (.str p.1), some (tupS p.2), z] ∧ O' = A ++ lsS B (fun c => up (B.take i) c ++ if c ∈ p.2.take k then [p.1] else [])) ⟨z, rfl, by simp⟩ (by
          rintro k d Γ O' hk ⟨z, rfl, rfl⟩
          have hd : d ∈ p.2 := List.mem_of_getElem? hk
          obtain ⟨q, hq, rfl⟩ := mem_nms (h.low p hp d hd)
          obtain ⟨j, hj⟩ := List.mem_iff_getElem?.mp hq
          have hno : q.1 ∉ p.2.take k := fun hm => by
            obtain ⟨m, hm⟩ := List.mem_iff_getElem?.mp hm
            rw [List.getElem?_take] at hm
            split at hm
            · rename_i hmk
              have l1 := (List.getElem?_eq_some_iff.mp hm)
              have l2 := (List.getElem?_eq_some_iff.mp hk)
              exact (List.pairwise_iff_getElem.mp (pw_nodup (h.lasc p hp)) m k l1.1 l2.1 hmk) (by rw [l1.2, l2.2])
            · cases hm
          have happ : appendM (A ++ lsS B (fun c => up (B.take i) c ++ if c ∈ p.2.take k then [p.1] else [])) (A.length + j) [.str p.1] = some (.none, A ++ lsS B (fun c => up (B.take i) c ++ if c ∈ p.2.take (k + 1) then [p.1] else [])) := by
            have hz : (((fun c => up (B.take i) c ++ if c ∈ p.2.take k then [p.1] else []) q.1).map Va.str).length < sizeLine := by
              have h1 : (up (B.take i) q.1).length ≤ (B.take i).length := up_len _
              have h2 : (B.take i).length ≤ B.length := by rw [List.length_take]; exact Nat.min_le_right _ _
              have h3 := h.small
              have h4 : 40 < sizeLine := by decide
              simp only [List.length_map, List.length_append, hno, if_false, List.length_nil]
              omega
            simp only [appendM, ls_get hj, hz, if_true]
            congr 2
            have e1 : ((fun c => up (B.take i) c ++ if c ∈ p.2.take k then [p.1] else []) q.1).map Va.str ++ [.str p.1] = ((fun c => up (B.take i) c ++ if c ∈ p.2.take (k + 1) then [p.1] else []) q.1).map Va.str := by
              have : q.1 ∈ p.2.take (k + 1) := by rw [List.take_add_one, hk]; simp
              simp [hno, this]
            have e2 := ls_set (A := A) (B := B) (S := fun c => up (B.take i) c ++ if c ∈ p.2.take k then [p.1] else []) (S' := fun c => up (B.take i) c ++ if c ∈ p.2.take (k + 1) then [p.1] else []) h.nd hj (fun c hc => by
              have : (c ∈ p.2.take (k + 1)) ↔ c ∈ p.2.take k := by rw [List.take_add_one, hk]; simp [hc]
              simp only [this])
            rw [← e2, ← e1]
          exact ⟨_, _, _, rfl, r_drop (r_meth (hE _ _ _ q j hj) (ls_get hj) (by walk_at "tv go") happ), _, rfl, rfl⟩)
      refine ⟨_, _, _, rfl, r_for (r_it (r_var rfl) rfl) hf2, _, _, _, rfl, ?_⟩
      rw [List.take_length]
      congr 2
      funext c
      rw [up_take hi])
  rw [List.take_length] at hf
  exact ⟨x', y', z', hf⟩
theorem mapS_strs (k : Nat) : ∀ (l : List Str) (O : So), mapS (fzD k) (l.map Va.str) O = some (l.map Va.str, O)
  | [], O => rfl
  | a :: l, O => by
    have e : fzD k (.str a) O = some (.str a, O) := by cases k <;> rfl
    rw [List.map_cons, mapS, e]
    simp only [mapS_strs k l O]
theorem fz_ref {k n : Nat} {O : So} {l : List Str} (h : O[n]? = some (.lst (l.map Va.str))) : fzD (k + 1) (.ref n) O = some (.lst (l.map Va.str), O.set n .dead) := by
  unfold fzD fz1
  simp only [h, mapS_strs]
/-- the lists are data from here on -/
theorem mapK_refs {k : Nat} {w : Str × List Str → Va → Va} {S : Str → List Str} (hk : ∀ p n (l : List Str) (O : So), O[n]? = some (.lst (l.map Va.str)) → fzD k (w p (.ref n)) O = some (w p (.lst (l.map Va.str)), O.set n .dead)) : ∀ (B : Bd) (A : So), mapK (fzD k) (dI B fun i p => w p (.ref (A.length + i))) (A ++ lsS B S) = some (dB B fun p => w p (.lst ((S p.1).map Va.str)), A ++ B.map fun _ => .dead)
  | [], A => by simp [dI, dB, lsS, mapK]
  | p :: B, A => by
    have e1 := hk p A.length (S p.1) (A ++ lsS (p :: B) S) (by simpa using ls_get (A := A) (S := S) (B := p :: B) (j := 0) (p := p) rfl)
    have e2 : (A ++ lsS (p :: B) S).set A.length .dead = (A ++ [.dead]) ++ lsS B S := by simp [lsS, List.set_append]
    have e3 := mapK_refs hk (S := S) B (A ++ [.dead])
    have e4 : (fun (i : Nat) (p : Str × List Str) => w p (.ref (A.length + (i + 1)))) = fun i p => w p (.ref ((A ++ [Ob.dead]).length + i)) := by
      funext i p
      rw [List.length_append, List.length_singleton, Nat.add_assoc, Nat.add_comm 1 i]
    rw [dI_cons, mapK]
    simp only [Nat.add_zero, e1, e2, e4, e3]
    simp [dB]
/-- a dict comprehension of data by the names of a board -/
theorem dc_dB {α : Type} {g : Tg} {ke e : Ex} {Γ : Ga} {O : So} {h : α → Va} {nm : α → Str} {f : α → Va} : ∀ (xs : List α) (acc : List (Key × Va)), (xs.map nm).Nodup → (∀ q ∈ acc, ∀ x ∈ xs, q.1 ≠ .inr (nm x)) → (∀ x ∈ xs, ∃ Γ1, g (h x) Γ = some Γ1 ∧ ke Γ1 O = some (.str (nm x), O) ∧ e Γ1 O = some (f x, O)) →
    dcL g tYs ke e Γ (xs.map h) acc O = some (acc ++ xs.map fun x => ((.inr (nm x) : Key), f x), O)
  | [], acc, _, _, _ => by simp [dcL]
  | x :: xs, acc, nd, hd, st => by
    obtain ⟨Γ1, h1, h2, h3⟩ := st x List.mem_cons_self
    rw [List.map_cons, List.nodup_cons] at nd
    have hp := pt_new (v := f x) fun q hq => hd q hq x List.mem_cons_self
    rw [List.map_cons, dcL, h1]
    simp only [tYs, h2, keyOf, h3, hp]
    rw [dc_dB xs _ nd.2 (fun q hq y hy => ?_) fun y hy => st y (List.mem_cons_of_mem _ hy)]
    · simp
    · rcases List.mem_append.mp hq with hq | hq
      · exact hd q hq y (List.mem_cons_of_mem _ hy)
      · simp at hq
        subst hq
        intro e
        injection e with e
        exact nd.1 (List.mem_map.mpr ⟨y, hy, e.symm⟩)
theorem gc_len {O O' : So} {r : Va} (h : O'.length = O.length) : gc O r O' = O' := by
  unfold gc
  split
  · rw [← h]; exact List.take_length
  · rfl
end
end TV
end
-- P3
section
set_option Elab.async false
set_option linter.all false
set_option maxRecDepth 100000
set_option maxHeartbeats 2000000
/-! P3: sorted texts, sorted items of a board. -/
namespace TV
open PySem L2
open TB (lk pt)
section
theorem leD_tot : ∀ (l : List Va), (l.mergeSort leD).Pairwise (fun a b => leD a b = true) := fun l => by
  rw [leD_eq]
  exact PySem.W.sort_pairwise (PySem.W.sortLe_total _ false _) l
theorem leD_str (x y : Str) : leD (.str x) (.str y) = !ltS y x := by
  show (!PySem.W.dataLt (.str y) (.str x)) = _
  rw [PySem.W.dataLt_str]
  rfl
theorem alike_strs : ∀ (l m : List Str), PySem.W.alikeAll (toDs (l.map Va.str)) (toDs (m.map Va.str)) = true
  | [], m => by cases m <;> simp [toDs, PySem.W.alikeAll]
  | a :: l, [] => by simp [toDs, PySem.W.alikeAll]
  | a :: l, b :: m => by simp [toDs, toD, PySem.W.alikeAll, PySem.W.alike, alike_strs l m]
theorem alike_it (p q : Str × List Str) : PySem.W.alike (toD (itV p)) (toD (itV q)) = true := by
  have := alike_strs p.2 q.2
  simp only [itV, tupS, toD, toDs, PySem.W.alike, PySem.W.alikeAll, this, Bool.and_self]
theorem leD_it {p q : Str × List Str} (h : p.1 ≠ q.1) : leD (itV p) (itV q) = !ltS q.1 p.1 := by
  have e : PyData.eqv (.str q.1) (.str p.1) = false := by
    simp only [PyData.eqv]
    exact beq_eq_false_iff_ne.mpr (Ne.symm h)
  have a : PySem.W.alike (PyData.str q.1) (PyData.str p.1) = true := rfl
  have b : PySem.W.alike (toD (tupS q.2)) (toD (tupS p.2)) = true := by
    have := alike_strs q.2 p.2
    simp only [tupS, toD, PySem.W.alike, this]
  show (!PySem.W.dataLt (.tuple [.str q.1, toD (tupS q.2)]) (.tuple [.str p.1, toD (tupS p.2)])) = _
  rw [PySem.W.dataLt_pair a b, e, if_neg Bool.false_ne_true, PySem.W.dataLt_str]
  rfl
theorem ltS_tot {x y : Str} (h : x ≠ y) (h1 : ltS y x = false) : sLt x y := by
  rw [sLt.iff]
  have h2 : ¬ y.cps.toList < x.cps.toList := by simpa [ltS] using h1
  have h3 : x.cps.toList ≤ y.cps.toList := List.not_lt.mp h2
  rcases List.le_iff_lt_or_eq.mp h3 with h | e
  · exact h
  · exact absurd (PySem.W.str_of_cps e) h
/-- texts that differ, sorted -/
def sortS (l : List Str) : List Str := l.mergeSort fun x y => leD (.str x) (.str y)
theorem sortS_perm (l : List Str) : (sortS l).Perm l := List.mergeSort_perm ..
theorem sortS_map (l : List Str) : (l.map Va.str).mergeSort leD = (sortS l).map Va.str := (List.map_mergeSort (r := fun x y => leD (.str x) (.str y)) (s := leD) (f := Va.str) fun _ _ _ _ => rfl).symm
theorem sortS_asc {l : List Str} (nd : l.Nodup) : (sortS l).Pairwise sLt := by
  have h := leD_tot (l.map Va.str)
  rw [sortS_map, List.pairwise_map] at h
  have nd' : (sortS l).Nodup := (sortS_perm l).nodup_iff.mpr nd
  exact (h.and nd').imp fun {x y} ⟨h1, h2⟩ => ltS_tot h2 (by rw [leD_str] at h1; simpa using h1)
def sortB' (B : Bd) : Bd := B.mergeSort fun p q => leD (itV p) (itV q)
theorem sortB_perm (B : Bd) : (sortB' B).Perm B := List.mergeSort_perm ..
theorem sortB_map (B : Bd) : (B.map itV).mergeSort leD = (sortB' B).map itV := (List.map_mergeSort (r := fun p q => leD (itV p) (itV q)) (s := leD) (f := itV) fun _ _ _ _ => rfl).symm
theorem sortB_asc {B : Bd} (nd : (nms B).Nodup) : (nms (sortB' B)).Pairwise sLt := by
  have h := leD_tot (B.map itV)
  rw [sortB_map, List.pairwise_map] at h
  have nd' : (nms (sortB' B)).Nodup := ((sortB_perm B).map _).nodup_iff.mpr nd
  unfold nms at nd' ⊢
  unfold List.Nodup at nd'
  rw [List.pairwise_map] at nd' ⊢
  exact (h.and nd').imp fun {p q} ⟨h1, h2⟩ => ltS_tot h2 (by rw [leD_it h2] at h1; simpa using h1)
theorem sorted_strs (O : So) {l : List Str} (hl : l.length ≤ 1000) : sortedV O [.lst (l.map Va.str)] = some (.lst ((sortS l).map Va.str)) := by
  have h1 : plAll 50 (l.map Va.str) = true := pl_strs 50 l
  have h2 : alikeB (l.map Va.str) = true := by
    unfold alikeB
    simp only [List.all_map, List.all_eq_true, Function.comp]
    intro x hx y hy
    rfl
  have h3 : sortB (l.map Va.str) = true := by
    unfold sortB
    rw [Bool.or_eq_true]
    right
    simp [List.all_map]
  have h4 : (l.map Va.str).length ≤ sizeLine := by
    have : 1000 ≤ sizeLine := by decide
    rw [List.length_map]; omega
  simp only [sortedV, asL]
  rw [if_pos ⟨h1, h2, h3, h4⟩, sortS_map]
theorem sorted_bd (O : So) {B : Bd} (hl : B.length ≤ 1000) : sortedV O [.lst (B.map itV)] = some (.lst ((sortB' B).map itV)) := by
  have h1 : plAll 50 (B.map itV) = true := by
    rw [plAll_eq, List.all_eq_true]
    intro x hx
    obtain ⟨p, _, rfl⟩ := List.mem_map.mp hx
    have : plAll 48 (p.2.map Va.str) = true := pl_strs 48 p.2
    simp [itV, tupS, pl, plAll, this]
  have h2 : alikeB (B.map itV) = true := by
    unfold alikeB
    simp only [List.all_map, List.all_eq_true, Function.comp]
    intro x hx y hy
    exact alike_it x y
  have h3 : sortB (B.map itV) = true := by
    unfold sortB
    rw [Bool.or_eq_true]
    left
    simp [List.all_map, itV]
  have h4 : (B.map itV).length ≤ sizeLine := by
    have : 1000 ≤ sizeLine := by decide
    rw [List.length_map]; omega
  simp only [sortedV, asL]
  rw [if_pos ⟨h1, h2, h3, h4⟩, sortB_map]
end
end TV
end
-- VQ
-- VO
section
set_option Elab.async false
set_option linter.all false
set_option maxRecDepth 100000
set_option maxHeartbeats 4000000
/-! VO: sorted(set(l)), l a list of whole numbers. -/
namespace TV
open PySem PySem.Spec L2 PyProof.Rows
/-- a set that was just made -/
abbrev nwS (w : World) : Obj := { cls := .type "set", dict := none, data := .set #[] 0 (.fresh 0 0 (!w.params.followText "set-order")) }
section
variable {P : Program} {w : World} {A : Around} {E : Value → Shared → Prop} {s : Shared}
/-- filling it from a list -/
theorem set_init_lst {l : Addr} {items : Array Value} (ns : List Int) (hh : A.handled = none) (hl : s.heap.IsList l items) (hit : IntsAre items.toList ns) (hb : ns.length + 1 < scanBound) :
    wpAny (model P w) A (Builtin.«set.__init__» ⟨[.ref s.heap.objs.size, .ref l], []⟩) (fun fin s₂ => ∃ v, fin = .done (.ret v) ∧ v = .none ∧ ∃ h' tk c, s₂ = { s with heap := h', toks := tk } ∧ SetR w h' s.heap.objs.size (fun j => decide (j ∈ ns)) c ∧ c ≤ ns.length ∧ ∀ b o, s.heap.get? b = some o → h'.get? b = some o) E { s with heap := s.heap.push (nwS w) } := by
  have hlen : items.size = ns.length := by rw [← Array.length_toList]; exact IntsAre.length hit
  have hnew : (s.heap.push (nwS w)).get? s.heap.objs.size = some (nwS w) := Heap.get?_push_size _ rfl
  have hold : ∀ b o, s.heap.get? b = some o → (s.heap.push (nwS w)).get? b = some o := fun b o e => Heap.get?_push_of_some _ e
  have hlP : (s.heap.push (nwS w)).IsList l items := hl.push _
  obtain ⟨⟨ocls, odict, odata, oslots⟩, hol, hcl, nl, hdl⟩ := hl
  simp only at hcl hdl
  subst hcl hdl
  have hlS : l < s.heap.objs.size := Heap.lt_size hol
  have hol' := hold _ _ hol
  have f1 := F.sub_list_set
  have f2 := F.sub_list_frozenset
  have f3 : (Value.type "list" == Value.type "dict") = false := by decide
  unfold Builtin.«set.__init__» noKeywords Builtin.Frozenset.updateFrom
  generalize hPI : pyIter = PI
  wp_walk
  subst hPI
  refine wpAny_pyIter_list hlP (wpAny_bind (wpAny_runValue ?_))
  have hz : (s.heap.push (nwS w)).objs.size = s.heap.objs.size + 1 := Heap.size_push ..
  refine set_update_ints ((Walks.list (by simp [hh]) _ l (by rw [hz]; exact Nat.ne_of_lt (Nat.lt_succ_of_lt hlS)) items).toS) s.heap.objs.size (by rw [hz]; simp only [List.mem_cons, List.not_mem_nil, or_false, not_or]; exact ⟨Nat.ne_of_lt (Nat.lt_succ_self _), Nat.ne_of_gt hlS⟩) ns hlen hb (fun i v hv => ?_) (items.size - 0) 0 _ (by omega) (Nat.zero_le _) ⟨⟨_, Heap.get?_push_size _ rfl, rfl, rfl⟩, hlP.push _⟩ ⟨0, Nat.le_refl 0, setR_new_at (Heap.get?_push_of_some _ hnew)⟩ fun s' c' hm hc' hS' => ?_
  · have hi : i < ns.length := by rw [← hlen]; exact (Array.getElem?_eq_some_iff.mp hv).1
    obtain ⟨t, e⟩ := IntsAre.int_at hit i v (by rw [Array.getElem?_toList]; exact hv)
    exact ⟨ns[i], t, List.getElem?_eq_getElem hi, by rw [e, List.getD_eq_getElem?_getD, List.getElem?_eq_getElem hi] <;> rfl⟩
  · obtain ⟨h', g2, d', tk', os'⟩ := s'
    obtain rfl : g2 = s.gens := hm.gens
    obtain rfl : d' = s.drawn := hm.drawn
    obtain rfl : os' = s.os := hm.os
    rw [hlen] at hc'
    refine wpAny_pure ?_
    show wpAny _ _ (ret Value.none) _ _ _
    refine wpAny_pure ⟨_, rfl, rfl, h', tk', c', rfl, hS', hc', fun b o e => ?_⟩
    have hb0 := Heap.lt_size e
    refine hm.heap b o ?_ (Heap.get?_push_of_some _ (hold b o e))
    rw [hz]
    simp only [List.mem_cons, List.not_mem_nil, or_false, not_or]
    exact ⟨Nat.ne_of_lt hb0, Nat.ne_of_lt (Nat.lt_succ_of_lt hb0)⟩
/-- set(l) -/
theorem call_set_lst {l : Addr} {items : Array Value} (ns : List Int) {Q : Value → Shared → Prop} (hh : A.handled = none) (hl : s.heap.IsList l items) (hit : IntsAre items.toList ns) (hb : ns.length + 1 < scanBound)
    (h : ∀ (h' : Heap) (tk c : Nat), SetR w h' s.heap.objs.size (fun j => decide (j ∈ ns)) c → c ≤ ns.length → (∀ b o, s.heap.get? b = some o → h'.get? b = some o) → Q (.ref s.heap.objs.size) { s with heap := h', toks := tk }) :
    wpAny (model P w) A (call (.type "set") [.ref l]) Q E s := by
  obtain ⟨c, tl, hmro⟩ := F.called_set.mro
  have g1 := F.called_set.made
  have g2 := F.called_set.sub
  have g3 := F.called_set.notType
  have g4 := F.called_set.canCreate
  have g5 := F.typeCall_set_1 (.ref l)
  refine wpAny_call (codeAny_of_tree ?_)
  show wpAny _ _ (callAny (.type "set") _) _ _ _
  refine wpAny_pure ⟨Code.quiet_builtin _ (by decide +kernel), codeAny_builtin F.entry_type_call ?_⟩
  rw [Around.under_plain (weight_type_call_type "set" [.ref l] []) rfl]
  repeat (any_goals (first | assumption | wp_step))
  refine codeAny_mono (code_set_led1 (.ref l) (E := E) (Q₁ := fun obj s₁ => obj = .ref s.heap.objs.size ∧ s₁ = { s with heap := s.heap.push (nwS w) }) ⟨rfl, rfl⟩) fun r s₁ hr => ?_
  cases r with
  | error e => exact hr
  | ok fl =>
    cases fl with
    | ret obj =>
      obtain ⟨rfl, rfl⟩ := hr
      have hT : Shared.TypeIs { s with heap := s.heap.push (nwS w) } (.ref s.heap.objs.size) "set" := ⟨_, Heap.get?_push_size _ rfl, rfl⟩
      have g6 := F.called_set.init.lookup
      have g7 := F.called_set.init.bind (.ref s.heap.objs.size)
      repeat (any_goals (first | assumption | wp_step))
      refine codeAny_mono (codeAny_call_builtin (R := wants (fun r s₂ => r = .none ∧ ∃ h' tk c, s₂ = { s with heap := h', toks := tk } ∧ SetR w h' s.heap.objs.size (fun j => decide (j ∈ ns)) c ∧ c ≤ ns.length ∧ ∀ b o, s.heap.get? b = some o → h'.get? b = some o) E) F.called_set.init.plain F.entry_set_init (check_set_init_1 hT (wpAny_mono (set_init_lst (A := A.in1.in1) (E := E) ns hh hl hit hb) (fun fin s₂ q => by obtain ⟨v, rfl, rfl, q⟩ := q; exact ⟨rfl, q⟩) fun e s q => q))) fun r₂ s₂ hr₂ => ?_
      cases r₂ with
      | error e => exact hr₂
      | ok fl₂ =>
        cases fl₂ with
        | ret r =>
          obtain ⟨rfl, h', tk, c', rfl, hS', hc', hk'⟩ := hr₂
          repeat (any_goals (first | assumption | wp_step))
          exact h _ _ _ hS' hc' hk'
        | _ => exact hr₂.elim
    | _ => exact hr.elim
end
end TV
end
-- VJ
section
set_option Elab.async false
set_option linter.all false
set_option maxRecDepth 100000
set_option maxHeartbeats 4000000
/-! VJ: sorted(set(l)), list(d.values()), dict(list(d.items())). -/
namespace TV
open PySem L2 PySem.Spec PyProof.Rows
open TB (Ctx FCtx GK lk pt RelKV)
/-! sorted(set(l)) -/
def srtI (ns : List Int) : List Int := (ns.eraseDups).mergeSort fun a b => decide (a ≤ b)
theorem srtI_mem {ns : List Int} {k : Int} : k ∈ srtI ns ↔ k ∈ ns := by
  unfold srtI
  rw [(List.mergeSort_perm ..).mem_iff, List.mem_eraseDups]
theorem nodup_eraseDups : ∀ (n : Nat) (ns : List Int), ns.length ≤ n → ns.eraseDups.Nodup
  | _, [], _ => by simp
  | n + 1, a :: ns, h => by
    rw [List.eraseDups_cons, List.nodup_cons]
    refine ⟨fun hm => ?_, nodup_eraseDups n _ (Nat.le_trans (List.length_filter_le ..) (by simpa using h))⟩
    rw [List.mem_eraseDups, List.mem_filter] at hm
    simp at hm
theorem srtI_lt (ns : List Int) : (srtI ns).Pairwise (· < ·) := by
  have h1 : (srtI ns).Pairwise (fun a b => decide (a ≤ b) = true) := List.pairwise_mergeSort (fun a b c h1 h2 => by simp at *; omega) (fun a b => by simp; omega) _
  have h2 : (srtI ns).Nodup := (List.mergeSort_perm ..).nodup_iff.mpr (nodup_eraseDups _ ns (Nat.le_refl _))
  exact lt_of_le_nodup _ (h1.imp fun h => by simpa using h) h2
theorem lt_ext {l m : List Int} (h : l.Pairwise (· < ·)) (k : m.Pairwise (· < ·)) (e : ∀ x, x ∈ l ↔ x ∈ m) : l = m := by
  have p : l.Perm m := by
    rw [List.perm_iff_count]
    intro a
    have n1 : l.Nodup := h.imp fun h => by omega
    have n2 : m.Nodup := k.imp fun h => by omega
    by_cases ha : a ∈ l
    · have c1 := List.count_pos_iff.mpr ha
      have c2 := List.count_pos_iff.mpr ((e a).mp ha)
      have d1 := List.nodup_iff_count.mp n1 a
      have d2 := List.nodup_iff_count.mp n2 a
      omega
    · rw [List.count_eq_zero_of_not_mem ha, List.count_eq_zero_of_not_mem fun z => ha ((e a).mpr z)]
  exact p.eq_of_pairwise (fun a b _ _ h1 h2 => by omega) h k
def sortSetV (O : So) : List Va → Option Va
  | [v] => match asL O v with
    | some vs => match intsOf vs with
      | some ns => if ns.length < 64 then some (.lst ((srtI ns).map Va.int)) else none
      | none => none
    | none => none
  | _ => none
def rSortSet (K : PySem.W.Frag) : List V → Hp → VK → Prop := fun vs H Q => ∃ (a : Addr) (ns : List Int), vs = [.ref a] ∧ SqL K H a (ns.map V.int) ∧ ns.length < 64 ∧ ∀ p, H p = none → Q (.ref p) (upd H p (.lst ((srtI ns).map V.int)))
theorem ints_vals : ∀ {ns : List Int} {us : List Value}, Vals (ns.map V.int) us → IntsAre us ns
  | [], _, .nil => .nil
  | n :: ns, _, .cons r t => by
    obtain ⟨k, rfl⟩ := r
    exact .cons n k (ints_vals t)
section
variable {X : Cx} {ta : TA} {te : TE} {e : Expr} {p p2 pos q cpos apos q2 : Pos}
theorem pe_sortSet (hc : X.calm = true) (hg : Gl X "sorted") (hm : X.mg "sorted" = none) (hg2 : Gl X "set") (hm2 : X.mg "set" = none) (ha : PA X [e] ta)
    (na : starEach [.Call (.Name "set" p2) [e] [] q] X.env = (false, eval (.Call (.Name "set" p2) [e] [] q) X.env) :: starEach [] X.env := by rfl)
    (hs : starEach [e] X.env = (false, eval e X.env) :: starEach [] X.env := by rfl) (hpl : (backTo q (starEach [] X.env)).any (·.1) = false := by rfl) :
    PE X (.Call (.Name "sorted" p) [.Call (.Name "set" p2) [e] [] q] [] pos) (tCB (rSortSet X.K) ta) := by
  refine ⟨fun pins s σ H Q I h => ?_⟩
  refine Call_ (ld_blt I hg hm (by decide +kernel : bootBuiltins "sorted" = some (.builtin "sorted")) ?_)
  refine PyProof.Rows.callWith_builtin1 (PyProof.Rows.args_cons ?_ na) rfl rfl
  refine Call_ (ld_blt I hg2 hm2 boot_set (PyProof.Rows.callWith_type1 (thn (ha.run q pins s σ H _ I h) fun us s1 ⟨vs, H1, I1, r1, q1⟩ => ?_) hs hpl))
  obtain ⟨a, ns, rfl, hq, hl, q1⟩ := q1
  obtain ⟨u, rfl, r2⟩ := vals1 r1
  obtain rfl : u = Value.ref a := r2
  obtain ⟨its, r, pl, hz⟩ := I1.list hq
  refine call_set_lst ns (I1.ok.hd hc) pl.isList (by simpa using ints_vals r) (by unfold scanBound; omega) fun h' tk c hS hcn hk => ?_
  refine PyProof.Rows.args_nil ?_
  refine sorted_set hS (I1.ok.hd hc) (by omega) fun s' p out c2 ns2 k g o hp hg hi hs2 hm hl2 => ?_
  have e2 : ns2 = srtI ns := lt_ext hs2 (srtI_lt ns) fun x => by rw [hm, srtI_mem]; simp
  subst e2
  have hlen : ((srtI ns).map V.int).length ≤ sizeLine := by rw [List.length_map, hl2, sizeLine_eq]; omega
  have keep : ∀ b u, s1.heap.get? b = some u → s'.heap.get? b = some u := fun b u e => k b u (hk b u e)
  have hp1 : s1.heap.objs.size ≤ p := by
    obtain ⟨oS, _, _, _, hoS, _⟩ := hS
    exact Nat.le_trans (Nat.le_of_lt (Heap.lt_size hoS)) hp
  have hn : H1 p = none := I1.hok.fresh hp1
  have J : Inv X pins σ (upd H1 p (.lst ((srtI ns).map V.int))) { s1 with heap := s'.heap, gens := s'.gens, drawn := s'.drawn, toks := s'.toks } :=
    I1.call (ch := []) (Un.laid keep hp1 hn) (I1.hok.laid keep hp1 ⟨hlen, out.toList, c2, vals_of_ints hi, hg⟩) (by rw [g]; exact I1.bare) (fun _ z => nomatch z)
  have e : s' = { s1 with heap := s'.heap, gens := s'.gens, drawn := s'.drawn, toks := s'.toks } := by
    cases s'
    cases s1
    cases o
    rfl
  rw [e]
  exact ⟨.ref p, _, J, rfl, q1 p hn⟩
/-! list(d.values()) -/
/-! dict(list(d.items())) -/
end
/-! the rules -/
section
variable {K : PySem.W.Frag} {m : List Addr} {H : Hp} {O : So}
theorem ints_repV : ∀ {vs : List Va} {xs : List V} {ns : List Int}, Reps K m H vs xs → intsOf vs = some ns → xs = ns.map V.int
  | [], _, ns, h, e => by cases e; cases h; rfl
  | v :: vs, _, ns, h, e => by
    cases h with
    | cons h r =>
      cases v with
      | int i =>
        simp only [intsOf, Option.map_eq_some_iff] at e
        obtain ⟨l, e, rfl⟩ := e
        cases h
        rw [List.map_cons, ← ints_repV r e]
      | _ => simp [intsOf] at e
theorem reps_ints : ∀ ns : List Int, Reps K m H (ns.map Va.int) (ns.map V.int)
  | [] => .nil
  | n :: ns => .cons (.int n) (reps_ints ns)
theorem sem_sortSet : ∀ m O H xs us w Q, Fit K m O H → Reps K m H xs us → sortSetV O xs = some w → (∀ m' H' z, Ext m H m' H' → Fit K m' O H' → Raw K H m' H' w z → Q z H') → rSortSet K us H Q := by
  intro m O H xs us w Q f r e k
  unfold sortSetV at e
  split at e
  · rename_i v
    split at e
    · rename_i vs hv
      split at e
      · rename_i ns hn
        split at e
        · rename_i h64
          cases e
          cases r with
          | cons r rr =>
            cases rr
            obtain ⟨a, xs, rfl, h, rs⟩ := rep_L f hv r
            have := ints_repV rs hn
            subst this
            refine ⟨a, ns, rfl, h.l, h64, fun p np => ?_⟩
            obtain ⟨h1, h2, h3⟩ := Raw.new f np (reps_ints (srtI ns))
            exact k m _ _ h1 h2 h3
        · cases e
      · cases e
    · cases e
  · cases e
end
section
variable {X : Cx} {P : Program} {w : World} {K : PySem.W.Frag} {mg : Str → Option Value} {base : Heap} {N : List Str} {sc : Scope} {lv : Nat} {e : Expr} {pos p p2 q q2 cpos apos : Pos} {mx : Ax} {me : Ex}
theorem d_sortsetF (C : Ctx X P w K mg base N sc lv) (hm : mg "sorted" = none) (hm2 : mg "set" = none) (ha : PA X [e] (TAm K mx)) (hg : GK sc "sorted" := by rfl) (hg2 : GK sc "set" := by rfl)
    (na : starEach [.Call (.Name "set" p2) [e] [] q] X.env = (false, eval (.Call (.Name "set" p2) [e] [] q) X.env) :: starEach [] X.env := by rfl)
    (hs : starEach [e] X.env = (false, eval e X.env) :: starEach [] X.env := by rfl) (hpl : (backTo q (starEach [] X.env)).any (·.1) = false := by rfl) :
    PE X (.Call (.Name "sorted" p) [.Call (.Name "set" p2) [e] [] q] [] pos) (TFm K (mCB sortSetV mx)) := by
  have := C.hK; subst this
  exact (pe_sortSet C.calm (C.gl hg) (by rw [C.hmg]; exact hm) (C.gl hg2) (by rw [C.hmg]; exact hm2) ha na hs hpl).weak (t_cbF sem_sortSet)
end
end TV
end
section
set_option Elab.async false
set_option linter.all false
set_option maxRecDepth 100000
set_option maxHeartbeats 4000000
namespace TV
open PySem L2
def v_MAX_CELLS : Va := (.int 36)
def v_MAX_CELL_LENGTH : Va := (.int 8)
def v_UNIT_BOUNDS : Va := (.tup [(.tup [(.int 1), (.int 1)]), (.tup [(.int 1), (.int 1)])])
def v_LETTERS : Va := (.str "abcdefghijklmnopqrstuvwxyz")
def v_DIGITS : Va := (.str "0123456789")
def g_is_integer_1_least : List Va → List Va → List Va := fun us ws => (fun (mv : List Va) => (us.take 1) ++ ((ws.drop 0).take 1) ++ ((mv.drop 0).take 1)) [.none]
def g_edge_sum_2_bounds : List Va → List Va → List Va := fun us ws => (fun (mv : List Va) => (us.take 2) ++ ((ws.drop 0).take 1)) []
noncomputable def b_is_integer : Sm :=
  (sSeq (sIf (tOr (tNot (mB (mUn (isiV "int") (mVar 0)))) (mB (mUn (isiV "bool") (mVar 0)))) (sRet (mC (.bool false))) sNext)
    (sRet (mAnd (mOp leV (mVar 1) (mVar 0)) (mOr (mOp isV (mVar 2) (mC .none)) (mOp leV (mVar 0) (mVar 2))))))
noncomputable def f_is_integer : Fn := fn 3 3 b_is_integer
noncomputable def l_greatest_common_divisor_1 : Sm :=
  (sPar 0 1 (aCons (mVar 1) (aCons (mOp modV (mVar 0) (mVar 1)) aNil)))
noncomputable def b_greatest_common_divisor : Sm :=
  (sSeq (sWhile (mB (mOp neV (mVar 1) (mC (.int 0)))) l_greatest_common_divisor_1)
    (sRet (mVar 0)))
noncomputable def f_greatest_common_divisor : Fn := fn 2 2 b_greatest_common_divisor
noncomputable def b_reciprocal : Sm :=
  (sRet (mTup (aCons (mOp ixV (mVar 0) (mC (.int 1))) (aCons (mOp ixV (mVar 0) (mC (.int 0))) aNil))))
noncomputable def f_reciprocal : Fn := fn 1 1 b_reciprocal
noncomputable def b_is_cell : Sm :=
  (sSeq (sIf (tOr (tNot (mB (mUn (isiV "str") (mVar 0)))) (tOr (tNot (mB (mChain leV leV (mC (.int 1)) (mCB lenV (aCons (mVar 0) aNil)) (mC v_MAX_CELL_LENGTH)))) (mB (mOp notInV (mOp ixV (mVar 0) (mC (.int 0))) (mC v_LETTERS))))) (sRet (mC (.bool false))) sNext)
    (sRet (mCB allV (aCons (mLc [1] (mIt (mVar 0)) (gN 1) tYs (mOp inV (mVar 1) (mOp addV (mC v_LETTERS) (mC v_DIGITS)))) aNil))))
noncomputable def f_is_cell : Fn := fn 1 2 b_is_cell
noncomputable def b_is_ascending : Sm :=
  (sRet (mCB allV (aCons (mLc [1, 2] (xArg zipF (aCons (mVar 0) (aCons (mSl (mVar 0) (mSome (mC (.int 1))) mNone) aNil))) (gT (gCs (gN 1) (gCs (gN 2) gNl))) tYs (mOp ltV (mVar 1) (mVar 2))) aNil)))
noncomputable def f_is_ascending : Fn := fn 1 3 b_is_ascending
noncomputable def l_cells_below_1 : Sm :=
  (sSeq (sAsg (mMeth popM (mVar 5) aNil) (gN 6))
    (sIf (mB (mOp notInV (mVar 6) (mVar 4))) (sSeq (sSetI (mVar 4) (mVar 6) (mC (.bool true)))
    (sDrop (mMeth extendM (mVar 5) (aCons (mOp ixV (mVar 1) (mVar 6)) aNil)))) sNext))
noncomputable def l_cells_below_2 : Sm :=
  (sSeq (sPar 4 5 (aCons (mTr mDnew) (aCons (mTr (mCB listV (aCons (mOp ixV (mVar 1) (mVar 3)) aNil))) aNil)))
    (sSeq (sWhile (mB (mOp neV (mVar 5) (mLst aNil))) l_cells_below_1)
    (sSeq (sFz fz1 4)
    (sSeq (sFz fz1 5)
    (sSetI (mVar 2) (mVar 3) (mVar 4))))))
noncomputable def b_cells_below : Sm :=
  (sSeq (sAsg (mCB dictV (aCons (mVar 0) aNil)) (gN 1))
    (sSeq (sAsg (mTr mDnew) (gN 2))
    (sSeq (sFor (mIt (mVar 1)) (gN 3) l_cells_below_2)
    (sSeq (sFz fz1 2)
    (sRet (mVar 2))))))
noncomputable def f_cells_below : Fn := fn 1 7 b_cells_below
noncomputable def b_maximal_cells : Sm :=
  (sSeq (sAsg (mDc2 [3, 4, 2] [2] (mIt (mVar 0)) (gT (gCs (gN 3) (gCs (gN 4) gNl))) tYs (mIt (mVar 4)) (gN 2) tYs (mVar 2) (mC (.bool true))) (gN 1))
    (sRet (mLc [3, 4] (mIt (mVar 0)) (gT (gCs (gN 3) (gCs (gN 4) gNl))) (mB (mOp notInV (mVar 3) (mVar 1))) (mVar 3))))
noncomputable def f_maximal_cells : Fn := fn 1 5 b_maximal_cells
noncomputable def b_board_from : Sm :=
  (sRet (mCB tupleV (aCons (mLc [1] (mIt (mCB sortedV (aCons (mVar 0) aNil))) (gN 1) tYs (mTup (aCons (mVar 1) (aCons (mCB tupleV (aCons (mCB sortedV (aCons (mOp ixV (mVar 0) (mVar 1)) aNil)) aNil)) aNil)))) aNil)))
noncomputable def f_board_from : Fn := fn 1 2 b_board_from
noncomputable def b__law_mixed : Sm :=
  (sSeq (sAsg (mOp modV (mOp mulV (mOp addV (mOp addV (mOp modV (mVar 0) (mC (.int 2147483647))) (mOp mulV (mOp mulV (mC (.int 7919)) (mVar 1)) (mVar 1))) (mOp mulV (mC (.int 31)) (mVar 1))) (mC (.int 48271))) (mC (.int 2147483647))) (gN 0))
    (sRet (mOp modV (mOp mulV (mVar 0) (mOp addV (mC (.int 69621)) (mOp mulV (mC (.int 2)) (mVar 1)))) (mC (.int 2147483629)))))
noncomputable def f__law_mixed : Fn := fn 2 2 b__law_mixed
noncomputable def l__law_lowest_1 : Sm :=
  (sPar 2 3 (aCons (mVar 3) (aCons (mOp modV (mVar 2) (mVar 3)) aNil)))
noncomputable def b__law_lowest : Sm :=
  (sSeq (sPar 2 3 (aCons (mVar 0) (aCons (mVar 1) aNil)))
    (sSeq (sWhile (mB (mOp neV (mVar 3) (mC (.int 0)))) l__law_lowest_1)
    (sRet (mTup (aCons (mOp divV (mVar 0) (mVar 2)) (aCons (mOp divV (mVar 1) (mVar 2)) aNil))))))
noncomputable def f__law_lowest : Fn := fn 2 4 b__law_lowest
noncomputable def b_is_fraction : Sm :=
  (sSeq (sIf (tOr (tNot (mB (mUn (isiV "tuple") (mVar 0)))) (tOr (mB (mOp neV (mCB lenV (aCons (mVar 0) aNil)) (mC (.int 2)))) (tNot (mB (mCB allV (aCons (mLc [1] (mIt (mVar 0)) (gN 1) tYs (mCallN f_is_integer 1 1 g_is_integer_1_least (aCons (mVar 1) aNil) (aCons (mC (.int 1)) aNil))) aNil)))))) (sRet (mC (.bool false))) sNext)
    (sRet (mOp eqV (mCall f_greatest_common_divisor [] (aCons (mOp ixV (mVar 0) (mC (.int 0))) (aCons (mOp ixV (mVar 0) (mC (.int 1))) aNil))) (mC (.int 1)))))
noncomputable def f_is_fraction : Fn := fn 1 2 b_is_fraction
noncomputable def b_reduced : Sm :=
  (sSeq (sAsg (mCall f_greatest_common_divisor [] (aCons (mVar 0) (aCons (mVar 1) aNil))) (gN 2))
    (sRet (mTup (aCons (mOp divV (mVar 0) (mVar 2)) (aCons (mOp divV (mVar 1) (mVar 2)) aNil)))))
noncomputable def f_reduced : Fn := fn 2 3 b_reduced
noncomputable def b_is_item : Sm :=
  (sSeq (sIf (tOr (tNot (mB (mUn (isiV "tuple") (mVar 0)))) (tOr (mB (mOp neV (mCB lenV (aCons (mVar 0) aNil)) (mC (.int 2)))) (tOr (tNot (mB (mCall f_is_cell [] (aCons (mOp ixV (mVar 0) (mC (.int 0))) aNil)))) (tNot (mB (mUn (isiV "tuple") (mOp ixV (mVar 0) (mC (.int 1))))))))) (sRet (mC (.bool false))) sNext)
    (sRet (mAnd (mCB allV (aCons (mLc [1] (mIt (mOp ixV (mVar 0) (mC (.int 1)))) (gN 1) tYs (mCall f_is_cell [] (aCons (mVar 1) aNil))) aNil)) (mCall f_is_ascending [] (aCons (mOp ixV (mVar 0) (mC (.int 1))) aNil)))))
noncomputable def f_is_item : Fn := fn 1 2 b_is_item
noncomputable def l_neighbour_labels_1 : Sm :=
  (sSeq (sAsg (mIf (mB (mOp neV (mVar 6) (mTup aNil))) (mLc [9] (mIt (mVar 6)) (gN 9) tYs (mOp ixV (mVar 3) (mVar 9))) (mLst (aCons (mOp ixV (mVar 2) (mC (.int 0))) aNil))) (gN 7))
    (sDrop (mMeth extendM (mVar 4) (aCons (mLc [8] (mIt (mVar 7)) (gN 8) tYs (mTup (aCons (mVar 8) (aCons (mOp ixV (mVar 3) (mVar 5)) aNil)))) aNil))))
noncomputable def b_neighbour_labels : Sm :=
  (sSeq (sIf (mB (mOp eqV (mVar 0) (mTup aNil))) (sRet (mLst (aCons (mVar 2) aNil))) sNext)
    (sSeq (sAsg (mDc [8, 5, 6] (xArg zipF (aCons (mVar 0) (aCons (mVar 1) aNil))) (gT (gCs (gT (gCs (gN 5) (gCs (gN 6) gNl))) (gCs (gN 8) gNl))) tYs (mVar 5) (mVar 8)) (gN 3))
    (sSeq (sAsg (mTr (mLst aNil)) (gN 4))
    (sSeq (sFor (mIt (mVar 0)) (gT (gCs (gN 5) (gCs (gN 6) gNl))) l_neighbour_labels_1)
    (sSeq (sFz fz1 4)
    (sRet (mOp addV (mVar 4) (mLc [5] (mIt (mCall f_maximal_cells [] (aCons (mVar 0) aNil))) (gN 5) tYs (mTup (aCons (mOp ixV (mVar 3) (mVar 5)) (aCons (mOp ixV (mVar 2) (mC (.int 1))) aNil)))))))))))
noncomputable def f_neighbour_labels : Fn := fn 3 10 b_neighbour_labels
noncomputable def b__law_stream : Sm :=
  (sRet (mTr (mLst (aCons (mIf (mB (mOp geV (mVar 0) (mOp powV (mC (.int 10)) (mC (.int 18))))) (mVar 0) (mC (.int 0))) (aCons (mC (.int 0)) (aCons (mCall f__law_mixed [] (aCons (mVar 0) (aCons (mVar 1) aNil))) aNil))))))
noncomputable def f__law_stream : Fn := fn 2 2 b__law_stream
noncomputable def b__law_draw : Sm :=
  (sSeq (sSetI (mVar 0) (mC (.int 1)) (mOp addV (mOp ixV (mVar 0) (mC (.int 1))) (mC (.int 1))))
    (sSeq (sIf (mB (mOp eqV (mOp ixV (mVar 0) (mC (.int 0))) (mC (.int 0)))) (sRet (mOp modV (mCall f__law_mixed [] (aCons (mCall f__law_mixed [] (aCons (mOp ixV (mVar 0) (mC (.int 2))) (aCons (mOp ixV (mVar 0) (mC (.int 1))) aNil))) (aCons (mC (.int 7)) aNil))) (mVar 1))) sNext)
    (sSeq (sAsg (mOp modV (mOp ixV (mVar 0) (mC (.int 0))) (mVar 1)) (gN 2))
    (sSeq (sSetI (mVar 0) (mC (.int 0)) (mOp divV (mOp ixV (mVar 0) (mC (.int 0))) (mVar 1)))
    (sRet (mVar 2))))))
noncomputable def f__law_draw : Fn := fn 2 3 b__law_draw
noncomputable def l_check_two_1 : Sm :=
  (sIf (tNot (mB (mCall f_is_fraction [] (aCons (mVar 3) aNil)))) sNever sNext)
noncomputable def b_check_two : Sm :=
  (sFor (xArg enumF (aCons (mTup (aCons (mVar 0) (aCons (mVar 1) aNil))) aNil)) (gT (gCs (gN 2) (gCs (gN 3) gNl))) l_check_two_1)
noncomputable def f_check_two : Fn := fn 2 4 b_check_two
noncomputable def b_sum_of_two : Sm :=
  (sRet (mCall f_reduced [] (aCons (mOp addV (mOp mulV (mOp ixV (mVar 0) (mC (.int 0))) (mOp ixV (mVar 1) (mC (.int 1)))) (mOp mulV (mOp ixV (mVar 1) (mC (.int 0))) (mOp ixV (mVar 0) (mC (.int 1))))) (aCons (mOp mulV (mOp ixV (mVar 0) (mC (.int 1))) (mOp ixV (mVar 1) (mC (.int 1)))) aNil))))
noncomputable def f_sum_of_two : Fn := fn 2 2 b_sum_of_two
noncomputable def b_product_of_two : Sm :=
  (sRet (mCall f_reduced [] (aCons (mOp mulV (mOp ixV (mVar 0) (mC (.int 0))) (mOp ixV (mVar 1) (mC (.int 0)))) (aCons (mOp mulV (mOp ixV (mVar 0) (mC (.int 1))) (mOp ixV (mVar 1) (mC (.int 1)))) aNil))))
noncomputable def f_product_of_two : Fn := fn 2 2 b_product_of_two
noncomputable def l_check_board_1 : Sm :=
  (sIf (tOr (tNot (mB (mCall f_is_item [] (aCons (mVar 4) aNil)))) (tAnd (mB (mOp gtV (mVar 3) (mC (.int 0)))) (mB (mOp leV (mOp ixV (mVar 4) (mC (.int 0))) (mOp ixV (mOp ixV (mVar 0) (mOp subV (mVar 3) (mC (.int 1)))) (mC (.int 0))))))) sNever sNext)
noncomputable def l_check_board_2 : Sm :=
  (sIf (tNot (mB (mCB allV (aCons (mLc [5] (mIt (mOp ixV (mVar 4) (mC (.int 1)))) (gN 5) tYs (mOp inV (mVar 5) (mVar 1))) aNil)))) sNever sNext)
noncomputable def l_check_board_3 : Sm :=
  (sIf (mB (mOp inV (mOp ixV (mVar 4) (mC (.int 0))) (mOp ixV (mVar 2) (mOp ixV (mVar 4) (mC (.int 0)))))) sNever sNext)
noncomputable def l_check_board_4 : Sm :=
  (sIf (mB (mCB anyV (aCons (mLc2 [5, 6] [6] (mIt (mOp ixV (mVar 4) (mC (.int 1)))) (gN 5) tYs (mIt (mOp ixV (mVar 4) (mC (.int 1)))) (gN 6) tYs (mOp inV (mVar 5) (mOp ixV (mVar 2) (mVar 6)))) aNil))) sNever sNext)
noncomputable def b_check_board : Sm :=
  (sSeq (sIf (tOr (tNot (mB (mUn (isiV "tuple") (mVar 0)))) (mB (mOp gtV (mCB lenV (aCons (mVar 0) aNil)) (mC v_MAX_CELLS)))) sNever sNext)
    (sSeq (sFor (xArg enumF (aCons (mVar 0) aNil)) (gT (gCs (gN 3) (gCs (gN 4) gNl))) l_check_board_1)
    (sSeq (sAsg (mCB dictV (aCons (mVar 0) aNil)) (gN 1))
    (sSeq (sFor (xArg enumF (aCons (mVar 0) aNil)) (gT (gCs (gN 3) (gCs (gN 4) gNl))) l_check_board_2)
    (sSeq (sAsg (mCall f_cells_below [] (aCons (mVar 0) aNil)) (gN 2))
    (sSeq (sFor (xArg enumF (aCons (mVar 0) aNil)) (gT (gCs (gN 3) (gCs (gN 4) gNl))) l_check_board_3)
    (sFor (xArg enumF (aCons (mVar 0) aNil)) (gT (gCs (gN 3) (gCs (gN 4) gNl))) l_check_board_4)))))))
noncomputable def f_check_board : Fn := fn 1 7 b_check_board
noncomputable def l_check_bounds_1 : Sm :=
  (sIf (tNot (mB (mCall f_is_fraction [] (aCons (mVar 2) aNil)))) sNever sNext)
noncomputable def b_check_bounds : Sm :=
  (sSeq (sIf (tOr (tNot (mB (mUn (isiV "tuple") (mVar 0)))) (mB (mOp neV (mCB lenV (aCons (mVar 0) aNil)) (mC (.int 2))))) sNever sNext)
    (sFor (xArg enumF (aCons (mVar 0) aNil)) (gT (gCs (gN 1) (gCs (gN 2) gNl))) l_check_bounds_1))
noncomputable def f_check_bounds : Fn := fn 1 3 b_check_bounds
noncomputable def b__law_fraction : Sm :=
  (sRet (mCall f__law_lowest [] (aCons (mOp addV (mC (.int 1)) (mCall f__law_draw [] (aCons (mVar 0) (aCons (mC (.int 9)) aNil)))) (aCons (mOp addV (mC (.int 1)) (mCall f__law_draw [] (aCons (mVar 0) (aCons (mC (.int 9)) aNil)))) aNil))))
noncomputable def f__law_fraction : Fn := fn 1 1 b__law_fraction
noncomputable def l__law_cells_1 : Sm :=
  (sSeq (sAsg (mOp ixV (mVar 2) (mOp modV (mOp addV (mVar 6) (mOp mulV (mVar 7) (mVar 5))) (mC (.int 26)))) (gN 9))
    (sDrop (mMeth appendM (mVar 4) (aCons (mOp ixV (mLst (aCons (mVar 9) (aCons (mOp addV (mVar 9) (mCB strV (aCons (mOp modV (mOp addV (mVar 3) (mOp mulV (mC (.int 37)) (mVar 5))) (mC (.int 1000))) aNil))) (aCons (mOp addV (mOp addV (mOp ixV (mVar 2) (mVar 6)) (mC (.str "zz9a"))) (mCB strV (aCons (mOp addV (mC (.int 100)) (mVar 5)) aNil))) aNil)))) (mVar 8)) aNil))))
noncomputable def b__law_cells : Sm :=
  (sSeq (sAsg (mC (.str "abcdefghijklmnopqrstuvwxyz")) (gN 2))
    (sSeq (sPar3 6 7 8 (aCons (mCall f__law_draw [] (aCons (mVar 0) (aCons (mC (.int 26)) aNil))) (aCons (mOp ixV (mLst (aCons (mC (.int 1)) (aCons (mC (.int 3)) (aCons (mC (.int 5)) (aCons (mC (.int 7)) aNil))))) (mCall f__law_draw [] (aCons (mVar 0) (aCons (mC (.int 4)) aNil)))) (aCons (mCall f__law_draw [] (aCons (mVar 0) (aCons (mC (.int 3)) aNil))) aNil))))
    (sSeq (sAsg (mCall f__law_draw [] (aCons (mVar 0) (aCons (mC (.int 900)) aNil))) (gN 3))
    (sSeq (sAsg (mTr (mLst aNil)) (gN 4))
    (sSeq (sFor (xArg range1F (aCons (mVar 1) aNil)) (gN 5) l__law_cells_1)
    (sSeq (sFz fz1 4)
    (sRet (mVar 4))))))))
noncomputable def f__law_cells : Fn := fn 2 10 b__law_cells
noncomputable def b_add : Sm :=
  (sSeq (sDrop (mCall f_check_two [] (aCons (mVar 0) (aCons (mVar 1) aNil))))
    (sRet (mCall f_sum_of_two [] (aCons (mVar 0) (aCons (mVar 1) aNil)))))
noncomputable def f_add : Fn := fn 2 2 b_add
noncomputable def b_multiply : Sm :=
  (sSeq (sDrop (mCall f_check_two [] (aCons (mVar 0) (aCons (mVar 1) aNil))))
    (sRet (mCall f_product_of_two [] (aCons (mVar 0) (aCons (mVar 1) aNil)))))
noncomputable def f_multiply : Fn := fn 2 2 b_multiply
noncomputable def b_divide : Sm :=
  (sSeq (sDrop (mCall f_check_two [] (aCons (mVar 0) (aCons (mVar 1) aNil))))
    (sRet (mCall f_product_of_two [] (aCons (mVar 0) (aCons (mCall f_reciprocal [] (aCons (mVar 1) aNil)) aNil)))))
noncomputable def f_divide : Fn := fn 2 2 b_divide
noncomputable def l_parallel_sum_1 : Sm :=
  (sIf (tNot (mB (mCall f_is_fraction [] (aCons (mVar 2) aNil)))) sNever sNext)
noncomputable def l_parallel_sum_2 : Sm :=
  (sAsg (mCall f_sum_of_two [] (aCons (mVar 1) (aCons (mCall f_reciprocal [] (aCons (mVar 2) aNil)) aNil))) (gN 1))
noncomputable def b_parallel_sum : Sm :=
  (sSeq (sIf (tOr (tNot (mB (mUn (isi2V "list" "tuple") (mVar 0)))) (mB (mOp eqV (mCB lenV (aCons (mVar 0) aNil)) (mC (.int 0))))) sNever sNext)
    (sSeq (sFor (xArg enumF (aCons (mVar 0) aNil)) (gT (gCs (gN 3) (gCs (gN 2) gNl))) l_parallel_sum_1)
    (sSeq (sAsg (mCall f_reciprocal [] (aCons (mOp ixV (mVar 0) (mC (.int 0))) aNil)) (gN 1))
    (sSeq (sFor (mIt (mSl (mVar 0) (mSome (mC (.int 1))) mNone)) (gN 2) l_parallel_sum_2)
    (sRet (mCall f_reciprocal [] (aCons (mVar 1) aNil)))))))
noncomputable def f_parallel_sum : Fn := fn 1 4 b_parallel_sum
noncomputable def l_check_labels_1 : Sm :=
  (sIf (tNot (mB (mCall f_is_fraction [] (aCons (mVar 3) aNil)))) sNever sNext)
noncomputable def b_check_labels : Sm :=
  (sSeq (sDrop (mCall f_check_board [] (aCons (mVar 0) aNil)))
    (sSeq (sIf (tOr (tNot (mB (mUn (isiV "tuple") (mVar 1)))) (mB (mOp neV (mCB lenV (aCons (mVar 1) aNil)) (mCB lenV (aCons (mVar 0) aNil))))) sNever sNext)
    (sFor (xArg enumF (aCons (mVar 1) aNil)) (gT (gCs (gN 2) (gCs (gN 3) gNl))) l_check_labels_1)))
noncomputable def f_check_labels : Fn := fn 2 4 b_check_labels
noncomputable def b_check_cell : Sm :=
  (sSeq (sDrop (mCall f_check_board [] (aCons (mVar 0) aNil)))
    (sIf (tOr (tNot (mB (mUn (isiV "str") (mVar 1)))) (mB (mOp notInV (mVar 1) (mCB dictV (aCons (mVar 0) aNil))))) sNever sNext))
noncomputable def f_check_cell : Fn := fn 2 2 b_check_cell
noncomputable def l_dual_1 : Sm :=
  (sDrop (mMeth appendM (mOp ixV (mVar 1) (mVar 4)) (aCons (mVar 2) aNil)))
noncomputable def l_dual_2 : Sm :=
  (sFor (mIt (mVar 3)) (gN 4) l_dual_1)
noncomputable def b_dual : Sm :=
  (sSeq (sDrop (mCall f_check_board [] (aCons (mVar 0) aNil)))
    (sSeq (sAsg (mDc [2, 3] (mIt (mVar 0)) (gT (gCs (gN 2) (gCs (gN 3) gNl))) tYs (mVar 2) (mTr (mLst aNil))) (gN 1))
    (sSeq (sFor (mIt (mVar 0)) (gT (gCs (gN 2) (gCs (gN 3) gNl))) l_dual_2)
    (sSeq (sFz (fzD 3) 1)
    (sRet (mCall f_board_from [] (aCons (mVar 1) aNil)))))))
noncomputable def f_dual : Fn := fn 1 5 b_dual
noncomputable def l__law_poset_1 : Sm :=
  (sSeq (sAsg (mLc [12] (xArg range1F (aCons (mVar 2) aNil)) (gN 12) (mB (mOp eqV (mCall f__law_draw [] (aCons (mVar 0) (aCons (mOp addV (mC (.int 1)) (mVar 5)) aNil))) (mC (.int 0)))) (mVar 12)) (gN 9))
    (sSeq (sAsg (mCB sortSetV (aCons (mCB sum2V (aCons (mLc [12] (mIt (mVar 9)) (gN 12) tYs (mOp ixV (mVar 7) (mVar 12))) (aCons (mVar 9) aNil))) aNil)) (gN 10))
    (sSeq (sAsg (mCB sum2V (aCons (mLc [12] (mIt (mVar 10)) (gN 12) tYs (mOp ixV (mVar 7) (mVar 12))) (aCons (mLst aNil) aNil))) (gN 11))
    (sSeq (sDrop (mMeth appendM (mVar 7) (aCons (mVar 10) aNil)))
    (sDrop (mMeth appendM (mVar 8) (aCons (mLc [12] (mIt (mVar 10)) (gN 12) (mB (mOp notInV (mVar 12) (mVar 11))) (mVar 12)) aNil)))))))
noncomputable def b__law_poset : Sm :=
  (sSeq (sAsg (mTup (aCons (mCall f__law_draw [] (aCons (mVar 0) (aCons (mOp addV (mVar 1) (mC (.int 1))) aNil))) (aCons (mOp addV (mC (.int 1)) (mCall f__law_draw [] (aCons (mVar 0) (aCons (mC (.int 4)) aNil)))) aNil))) (gT (gCs (gN 4) (gCs (gN 5) gNl))))
    (sSeq (sAsg (mTup (aCons (mCall f__law_cells [] (aCons (mVar 0) (aCons (mVar 4) aNil))) (aCons (mTr (mLst aNil)) (aCons (mTr (mLst aNil)) aNil)))) (gT (gCs (gN 6) (gCs (gN 7) (gCs (gN 8) gNl)))))
    (sSeq (sFor (xArg range1F (aCons (mVar 4) aNil)) (gN 2) l__law_poset_1)
    (sSeq (sFz fz1 7)
    (sSeq (sFz fz1 8)
    (sSeq (sAsg (mLc [2] (xArg range1F (aCons (mVar 4) aNil)) (gN 2) tYs (mTup (aCons (mOp ixV (mVar 6) (mVar 2)) (aCons (mCB tupleV (aCons (mCB sortedV (aCons (mLc [12] (mIt (mOp ixV (mVar 8) (mVar 2))) (gN 12) tYs (mOp ixV (mVar 6) (mVar 12))) aNil)) aNil)) aNil)))) (gN 3))
    (sRet (mCB tupleV (aCons (mCB sortedV (aCons (mVar 3) aNil)) aNil)))))))))
noncomputable def f__law_poset : Fn := fn 2 13 b__law_poset
noncomputable def b_lower_covers : Sm :=
  (sSeq (sDrop (mCall f_check_cell [] (aCons (mVar 0) (aCons (mVar 1) aNil))))
    (sRet (mOp ixV (mCB dictV (aCons (mVar 0) aNil)) (mVar 1))))
noncomputable def f_lower_covers : Fn := fn 2 2 b_lower_covers
noncomputable def b_upper_covers : Sm :=
  (sSeq (sDrop (mCall f_check_cell [] (aCons (mVar 0) (aCons (mVar 1) aNil))))
    (sRet (mCB tupleV (aCons (mLc [2, 3] (mIt (mVar 0)) (gT (gCs (gN 2) (gCs (gN 3) gNl))) (mB (mOp inV (mVar 1) (mVar 3))) (mVar 2)) aNil))))
noncomputable def f_upper_covers : Fn := fn 2 4 b_upper_covers
noncomputable def l_edge_sum_1 : Sm :=
  (sAsg (mCall f_sum_of_two [] (aCons (mVar 4) (aCons (mVar 5) aNil))) (gN 4))
noncomputable def b_edge_sum : Sm :=
  (sSeq (sDrop (mCall f_check_labels [] (aCons (mVar 0) (aCons (mVar 1) aNil))))
    (sSeq (sDrop (mCall f_check_bounds [] (aCons (mVar 2) aNil)))
    (sSeq (sAsg (mLc [6, 7] (mIt (mCall f_neighbour_labels [] (aCons (mVar 0) (aCons (mVar 1) (aCons (mVar 2) aNil))))) (gT (gCs (gN 6) (gCs (gN 7) gNl))) tYs (mCall f_product_of_two [] (aCons (mVar 6) (aCons (mCall f_reciprocal [] (aCons (mVar 7) aNil)) aNil)))) (gN 3))
    (sSeq (sAsg (mOp ixV (mVar 3) (mC (.int 0))) (gN 4))
    (sSeq (sFor (mIt (mSl (mVar 3) (mSome (mC (.int 1))) mNone)) (gN 5) l_edge_sum_1)
    (sRet (mVar 4)))))))
noncomputable def f_edge_sum : Fn := fn 3 8 b_edge_sum
noncomputable def b_dual_labels : Sm :=
  (sSeq (sDrop (mCall f_check_labels [] (aCons (mVar 0) (aCons (mVar 1) aNil))))
    (sRet (mCB tupleV (aCons (mLc [2] (mIt (mVar 1)) (gN 2) tYs (mCall f_reciprocal [] (aCons (mVar 2) aNil))) aNil))))
noncomputable def f_dual_labels : Fn := fn 2 3 b_dual_labels
noncomputable def l__law_toggled_1 : Sm :=
  (sAsg (mCall f_add [] (aCons (mVar 7) (aCons (mVar 8) aNil))) (gN 7))
noncomputable def b__law_toggled : Sm :=
  (sSeq (sAsg (mCB dictV (aCons (mLc [11] (xArg range1F (aCons (mCB lenV (aCons (mVar 0) aNil)) aNil)) (gN 11) tYs (mTup (aCons (mOp ixV (mOp ixV (mVar 0) (mVar 11)) (mC (.int 0))) (aCons (mVar 11) aNil)))) aNil)) (gN 4))
    (sSeq (sAsg (mLc [8] (mIt (mCall f_lower_covers [] (aCons (mVar 0) (aCons (mVar 2) aNil)))) (gN 8) tYs (mOp ixV (mVar 1) (mOp ixV (mVar 4) (mVar 8)))) (gN 5))
    (sSeq (sAsg (mLc [8] (mIt (mCall f_upper_covers [] (aCons (mVar 0) (aCons (mVar 2) aNil)))) (gN 8) tYs (mOp ixV (mVar 1) (mOp ixV (mVar 4) (mVar 8)))) (gN 6))
    (sSeq (sAsg (mIf (mB (mOp eqV (mVar 5) (mLst aNil))) (mOp ixV (mVar 3) (mC (.int 0))) (mOp ixV (mVar 5) (mC (.int 0)))) (gN 7))
    (sSeq (sFor (mIt (mSl (mVar 5) (mSome (mC (.int 1))) mNone)) (gN 8) l__law_toggled_1)
    (sSeq (sAsg (mCall f_parallel_sum [] (aCons (mIf (mB (mOp neV (mVar 6) (mLst aNil))) (mVar 6) (mLst (aCons (mOp ixV (mVar 3) (mC (.int 1))) aNil))) aNil)) (gN 9))
    (sSeq (sAsg (mOp ixV (mVar 4) (mVar 2)) (gN 10))
    (sRet (mOp addV (mOp addV (mSl (mVar 1) mNone (mSome (mVar 10))) (mTup (aCons (mCall f_divide [] (aCons (mCall f_multiply [] (aCons (mVar 7) (aCons (mVar 9) aNil))) (aCons (mOp ixV (mVar 1) (mVar 10)) aNil))) aNil))) (mSl (mVar 1) (mSome (mOp addV (mVar 10) (mC (.int 1)))) mNone))))))))))
noncomputable def f__law_toggled : Fn := fn 4 12 b__law_toggled
noncomputable def b__law_step_right : Sm :=
  (sSeq (sAsg (mCall f__law_toggled [] (aCons (mVar 0) (aCons (mVar 1) (aCons (mVar 2) (aCons (mVar 3) aNil))))) (gN 5))
    (sSeq (sIf (mB (mOp neV (mCallN f_edge_sum 2 1 g_edge_sum_2_bounds (aCons (mVar 0) (aCons (mVar 5) aNil)) (aCons (mVar 3) aNil)) (mCallN f_edge_sum 2 1 g_edge_sum_2_bounds (aCons (mVar 0) (aCons (mVar 1) aNil)) (aCons (mVar 3) aNil)))) (sRet (mC (.bool false))) sNext)
    (sSeq (sIf (mB (mOp neV (mCall f__law_toggled [] (aCons (mVar 0) (aCons (mVar 5) (aCons (mVar 2) (aCons (mVar 3) aNil))))) (mVar 1))) (sRet (mC (.bool false))) sNext)
    (sSeq (sAsg (mTup (aCons (mUn revV (mOp ixV (mVar 3) (mC (.int 1)))) (aCons (mUn revV (mOp ixV (mVar 3) (mC (.int 0)))) aNil))) (gN 6))
    (sSeq (sIf (mB (mOp neV (mCall f__law_toggled [] (aCons (mCall f_dual [] (aCons (mVar 0) aNil)) (aCons (mCall f_dual_labels [] (aCons (mVar 0) (aCons (mVar 1) aNil))) (aCons (mVar 2) (aCons (mVar 6) aNil))))) (mCall f_dual_labels [] (aCons (mVar 0) (aCons (mVar 5) aNil))))) (sRet (mC (.bool false))) sNext)
    (sSeq (sAsg (mCB tupleV (aCons (mLc [9] (mIt (mVar 1)) (gN 9) tYs (mCall f_multiply [] (aCons (mVar 9) (aCons (mVar 4) aNil)))) aNil)) (gN 7))
    (sSeq (sAsg (mCB tupleV (aCons (mLc [9] (mIt (mVar 5)) (gN 9) tYs (mCall f_multiply [] (aCons (mVar 9) (aCons (mVar 4) aNil)))) aNil)) (gN 8))
    (sRet (mOp eqV (mCall f__law_toggled [] (aCons (mVar 0) (aCons (mVar 7) (aCons (mVar 2) (aCons (mTup (aCons (mCall f_multiply [] (aCons (mOp ixV (mVar 3) (mC (.int 0))) (aCons (mVar 4) aNil))) (aCons (mCall f_multiply [] (aCons (mOp ixV (mVar 3) (mC (.int 1))) (aCons (mVar 4) aNil))) aNil))) aNil))))) (mVar 8))))))))))
noncomputable def f__law_step_right : Fn := fn 5 10 b__law_step_right
noncomputable def b__law_exchange_right : Sm :=
  (sSeq (sIf (tOr (mB (mOp inV (mVar 2) (mCall f_lower_covers [] (aCons (mVar 0) (aCons (mVar 3) aNil))))) (mB (mOp inV (mVar 3) (mCall f_lower_covers [] (aCons (mVar 0) (aCons (mVar 2) aNil)))))) (sRet (mC (.bool true))) sNext)
    (sSeq (sAsg (mCall f__law_toggled [] (aCons (mVar 0) (aCons (mCall f__law_toggled [] (aCons (mVar 0) (aCons (mVar 1) (aCons (mVar 2) (aCons (mVar 4) aNil))))) (aCons (mVar 3) (aCons (mVar 4) aNil))))) (gN 5))
    (sRet (mOp eqV (mVar 5) (mCall f__law_toggled [] (aCons (mVar 0) (aCons (mCall f__law_toggled [] (aCons (mVar 0) (aCons (mVar 1) (aCons (mVar 3) (aCons (mVar 4) aNil))))) (aCons (mVar 2) (aCons (mVar 4) aNil)))))))))
noncomputable def f__law_exchange_right : Fn := fn 5 6 b__law_exchange_right
noncomputable def l_law_1 : Sm :=
  (sSeq (sPar 9 10 (aCons (mOp ixV (mOp ixV (mVar 4) (mCall f__law_draw [] (aCons (mVar 3) (aCons (mCB lenV (aCons (mVar 4) aNil)) aNil)))) (mC (.int 0))) (aCons (mOp ixV (mOp ixV (mVar 4) (mCall f__law_draw [] (aCons (mVar 3) (aCons (mCB lenV (aCons (mVar 4) aNil)) aNil)))) (mC (.int 0))) aNil)))
    (sSeq (sIf (tNot (mB (mCall f__law_step_right [] (aCons (mVar 4) (aCons (mVar 5) (aCons (mVar 9) (aCons (mVar 7) (aCons (mVar 8) aNil)))))))) (sRet (mC (.bool false))) sNext)
    (sSeq (sIf (tNot (mB (mCall f__law_exchange_right [] (aCons (mVar 4) (aCons (mVar 5) (aCons (mVar 9) (aCons (mVar 10) (aCons (mVar 7) aNil)))))))) (sRet (mC (.bool false))) sNext)
    (sAsg (mCall f__law_toggled [] (aCons (mVar 4) (aCons (mVar 5) (aCons (mVar 9) (aCons (mVar 7) aNil))))) (gN 5)))))
noncomputable def l_law_2 : Sm :=
  (sSeq (sAsg (mCall f__law_stream [] (aCons (mVar 2) (aCons (mVar 1) aNil))) (gN 3))
    (sSeq (sAsg (mCall f__law_poset [] (aCons (mVar 3) (aCons (mC (.int 8)) aNil))) (gN 4))
    (sSeq (sAsg (mCB tupleV (aCons (mLc [9] (mIt (mVar 4)) (gN 9) tYs (mCall f__law_fraction [] (aCons (mVar 3) aNil))) aNil)) (gN 5))
    (sSeq (sPar 7 8 (aCons (mTup (aCons (mCall f__law_fraction [] (aCons (mVar 3) aNil)) (aCons (mCall f__law_fraction [] (aCons (mVar 3) aNil)) aNil))) (aCons (mCall f__law_fraction [] (aCons (mVar 3) aNil)) aNil)))
    (sFor (xArg range1F (aCons (mOp mulV (mOp addV (mC (.int 1)) (mCall f__law_draw [] (aCons (mVar 3) (aCons (mC (.int 6)) aNil)))) (mCB intV (aCons (mOp neV (mVar 4) (mTup aNil)) aNil))) aNil)) (gN 6) l_law_1)))))
noncomputable def b_law : Sm :=
  (sSeq (sFor (xArg enumF (aCons (mSl (mOp addV (mVar 0) (mLst (aCons (mC (.int 0)) aNil))) mNone (mSome (mC (.int 6)))) aNil)) (gT (gCs (gN 1) (gCs (gN 2) gNl))) l_law_2)
    (sRet (mC (.bool true))))
noncomputable def f_law : Fn := fn 1 11 b_law
end TV
end
-- Q1
section
set_option Elab.async false
set_option linter.all false
set_option maxRecDepth 100000
set_option maxHeartbeats 2000000
set_option exponentiation.threshold 100000
namespace TV
open PySem L2
/-! Q1: fractions. -/
section
open TB (sz sz_div sz_add sz_mul sz_inv num_pos den_pos red_num red_den add_frac mul_frac gcd_fr num_inv_pos den_inv_pos)
/-- the fraction as the program holds it -/
def fq (q : Rat) : Va := .tup [.int q.num, .int (q.den : Int)]
/-- called so, a def gives v and leaves the store -/
abbrev Pu (F : Fn) (args : List Va) (v : Va) : Prop := ∀ O, F args O = some (v, O)
theorem fq_def (q : Rat) : fq q = .tup [.int q.num, .int (q.den : Int)] := rfl
theorem fq_red {n m : Int} (hm : 0 < m) : Va.tup [.int (n / (Int.gcd n m : Int)), .int (m / (Int.gcd n m : Int))] = fq ((n : Rat) / (m : Rat)) := by
  unfold fq; rw [red_num hm, red_den hm]
theorem fq_inv {q : Rat} (h : 0 < q) : Va.tup [.int (q.den : Int), .int q.num] = fq q⁻¹ := by
  unfold fq; rw [num_inv_pos h, den_inv_pos h]
theorem eqv_i (a b : Int) : PyData.eqv (.int a) (.int b) = decide (a = b) := TB.eqv_int a b
theorem ne_i (O : So) (a b : Int) : neV O (.int a) (.int b) = some (.bool (decide (a ≠ b))) := by
  simp [neV, unref, pl, veq, toD, eqv_i]
theorem eq_i (O : So) (a b : Int) : eqV O (.int a) (.int b) = some (.bool (decide (a = b))) := by
  simp [eqV, unref, pl, veq, toD, eqv_i]
theorem c_ne (i : Nat) (Γ : Ga) (O : So) (y : Int) (h : Γ[i]? = some (some (.int y))) : mB (mOp neV (mVar i) (mC (.int 0))) Γ O = some (decide (y ≠ 0), O) := by
  simp [mB, mOp, mVar, mC, h, ne_i]
theorem log_lt {m : Int} (h : m.natAbs < 2 ^ 9000) : m.natAbs.log2 < 9000 := by
  by_cases h0 : m.natAbs = 0
  · rw [h0]; decide
  · exact (Nat.log2_lt h0).mpr h
theorem div_ok (O : So) {a b : Int} (h : 0 < b) (hb : b.natAbs < 2 ^ 9000) : divV O (.int a) (.int b) = some (.int (a / b)) := by
  have := PyProof.noPylong_of_log2 (x := a) (log_lt hb)
  simp [divV, h, this]
theorem mod_ok (O : So) {a b : Int} (h : 0 < b) : modV O (.int a) (.int b) = some (.int (a % b)) := by simp [modV, h]
theorem mul_ok (O : So) {a b : Int} (ha : a.natAbs < 2 ^ 400000) (hb : b.natAbs < 2 ^ 400000) : mulV O (.int a) (.int b) = some (.int (a * b)) := by
  have lg : ∀ {x : Int}, x.natAbs < 2 ^ 400000 → x.natAbs.log2 < 400000 := fun {x} h => by
    by_cases h0 : x.natAbs = 0
    · rw [h0]; decide
    · exact (Nat.log2_lt h0).mpr h
  have h1 := lg ha
  have h2 := lg hb
  have : mulOk a b = true := by unfold mulOk; rw [decide_eq_true_eq]; omega
  simp [mulV, this]
theorem gcd_ok (a b : Int) (ha : 0 ≤ a) (hb : 0 ≤ b) : Pu f_greatest_common_divisor [.int a, .int b] (.int (Int.gcd a b)) := fun O => by
  unfold f_greatest_common_divisor b_greatest_common_divisor l_greatest_common_divisor_1
  have h := sWhile_of (euclid (i := 0) (j := 1) (by decide) (fun Γ O y h _ => c_ne 1 Γ O y h) (b.natAbs + 1) a b [some (.int a), some (.int b)] O ha hb (by omega) rfl rfl)
  simp [fn, start, gc_same, mVar, mC, mOp, mUn, aNil, aCons, mCB, mTup, mLst, mB, mAnd, mOr, mNot, tAnd, tOr, tNot, mIf, mChain, sNext, sSeq, sRet, sRetN, sDrop, sIf, sAsg, sPar, sPar3, gN, gNl, gCs, gT, mNone, mSome, mSl, mIt, itemsOf, xArg, mCall, mCallN, add_ii, subV, negV, ltV, leV, gtV, geV, isV, isNotV, isNone, ix_t0, ix_t1, isiV, tyOf, kit_ii, kit_ib, kit_tt, kit_ss, sl_1, sl_2, sl_3, len_t, sNever, h]
theorem gcd_bd {n m : Int} (hm : 0 < m) (h : m.natAbs < 2 ^ 9000) : (0 : Int) < (Int.gcd n m : Int) ∧ ((Int.gcd n m : Nat) : Int).natAbs < 2 ^ 9000 := by
  have h1 : Int.gcd n m ≤ m.natAbs := Nat.gcd_le_right _ (by omega)
  have h2 : 0 < Int.gcd n m := Int.gcd_pos_of_ne_zero_right n (by omega)
  exact ⟨by omega, by
    have : ((Int.gcd n m : Nat) : Int).natAbs = Int.gcd n m := by omega
    omega⟩
theorem is_integer_ok (a l : Int) : Pu f_is_integer [.int a, .int l, .none] (.bool (decide (l ≤ a))) := fun O => by
  unfold f_is_integer b_is_integer
  by_cases h : l ≤ a <;> simp [fn, start, gc_same, mVar, mC, mOp, mUn, aNil, aCons, mCB, mTup, mLst, mB, mAnd, mOr, mNot, tAnd, tOr, tNot, mIf, mChain, sNext, sSeq, sRet, sRetN, sDrop, sIf, sAsg, sPar, sPar3, gN, gNl, gCs, gT, mNone, mSome, mSl, mIt, itemsOf, xArg, mCall, mCallN, add_ii, subV, negV, ltV, leV, gtV, geV, isV, isNotV, isNone, ix_t0, ix_t1, isiV, tyOf, kit_ii, kit_ib, kit_tt, kit_ss, sl_1, sl_2, sl_3, len_t, sNever, h]
theorem reciprocal_ok {q : Rat} (hq : 0 < q) : Pu f_reciprocal [fq q] (fq q⁻¹) := fun O => by
  unfold f_reciprocal b_reciprocal
  rw [← fq_inv hq]
  simp [fn, start, gc_same, mVar, mC, mOp, mUn, aNil, aCons, mCB, mTup, mLst, mB, mAnd, mOr, mNot, tAnd, tOr, tNot, mIf, mChain, sNext, sSeq, sRet, sRetN, sDrop, sIf, sAsg, sPar, sPar3, gN, gNl, gCs, gT, mNone, mSome, mSl, mIt, itemsOf, xArg, mCall, mCallN, add_ii, subV, negV, ltV, leV, gtV, geV, isV, isNotV, isNone, ix_t0, ix_t1, isiV, tyOf, kit_ii, kit_ib, kit_tt, kit_ss, sl_1, sl_2, sl_3, len_t, sNever, fq]
theorem is_fraction_ok {q : Rat} (hq : 0 < q) : Pu f_is_fraction [fq q] (.bool true) := fun O => by
  have hn := num_pos hq
  have hd := den_pos q
  unfold f_is_fraction b_is_fraction
  have e1 : (1 : Int) ≤ q.num := by omega
  have e2 : (1 : Int) ≤ (q.den : Int) := by omega
  simp [fn, start, gc_same, mVar, mC, mOp, mUn, aNil, aCons, mCB, mTup, mLst, mB, mAnd, mOr, mNot, tAnd, tOr, tNot, mIf, mChain, sNext, sSeq, sRet, sRetN, sDrop, sIf, sAsg, sPar, sPar3, gN, gNl, gCs, gT, mNone, mSome, mSl, mIt, itemsOf, xArg, mCall, mCallN, add_ii, subV, negV, ltV, leV, gtV, geV, isV, isNotV, isNone, ix_t0, ix_t1, isiV, tyOf, kit_ii, kit_ib, kit_tt, kit_ss, sl_1, sl_2, sl_3, len_t, sNever, fq, mLc, lcL, wipeA, tYs, g_is_integer_1_least, is_integer_ok q.num 1 O, is_integer_ok q.den 1 O, ne_i, eq_i, gcd_ok q.num q.den (by omega) (by omega) O, gcd_fr, allV, asL, boolsOf, boolOf, e1, e2]
theorem nat_lt {q : Rat} {n k : Nat} (h : sz n q) (hk : n ≤ k) : q.num.natAbs < 2 ^ k ∧ (q.den : Int).natAbs < 2 ^ k := by
  have := h.mono hk
  exact ⟨this.1, this.den⟩
/-! sums of lists -/
theorem sz_zero : sz 1 0 := ⟨by decide, by decide⟩
theorem sum_nn {qs : List Rat} (h : ∀ q ∈ qs, 0 ≤ q) : 0 ≤ qs.sum := by
  induction qs with
  | nil => simp
  | cons q qs ih =>
    rw [List.sum_cons]
    have := h q List.mem_cons_self
    have := ih fun x hx => h x (List.mem_cons_of_mem _ hx)
    grind
theorem sum_snoc (qs : List Rat) (q : Rat) : (qs ++ [q]).sum = qs.sum + q := by
  induction qs with
  | nil => simp; grind
  | cons p qs ih => rw [List.cons_append, List.sum_cons, List.sum_cons, ih]; grind
theorem sum_sz {n : Nat} {qs : List Rat} (h : ∀ q ∈ qs, sz n q) : sz ((n + 1) * qs.length + 1) qs.sum := by
  induction qs with
  | nil => exact sz_zero.mono (by simp)
  | cons q qs ih =>
    rw [List.sum_cons]
    refine (sz_add (h q List.mem_cons_self) (ih fun x hx => h x (List.mem_cons_of_mem _ hx))).mono ?_
    rw [List.length_cons, Nat.mul_succ]
    omega
end
end TV
end
-- Q2
section
set_option Elab.async false
set_option linter.all false
set_option maxRecDepth 100000
set_option maxHeartbeats 2000000
namespace TV
open PySem L2
open TB (lk pt)
/-! Q2: boards are checked. -/
section
theorem in_letters (O : So) (c : Nat) (h : c ∈ letters) : notInV O (.str ⟨#[c]⟩) v_LETTERS = some (.bool false) := by
  have : c ∈ ("abcdefghijklmnopqrstuvwxyz" : Str).cps.toList := h
  simp [notInV, inB, asD, asQ, v_LETTERS, this]
theorem ld_ok (O : So) : addV O v_LETTERS v_DIGITS = some (.str ("abcdefghijklmnopqrstuvwxyz" ++ "0123456789" : Str)) := by
  have : ("abcdefghijklmnopqrstuvwxyz" : Str).length + ("0123456789" : Str).length ≤ sizeLine := by decide +kernel
  simp [addV, v_LETTERS, v_DIGITS, this]
theorem in_signs (O : So) (c : Nat) (h : c ∈ signs) : inV O (.str ⟨#[c]⟩) (.str ("abcdefghijklmnopqrstuvwxyz" ++ "0123456789" : Str)) = some (.bool true) := by
  have e : ("abcdefghijklmnopqrstuvwxyz" ++ "0123456789" : Str).cps.toList = signs := by decide +kernel
  simp only [inV, inB, asD, asQ, e]
  simp [h]
theorem is_cell_ok {x : Str} (h : cellOk x) : Pu f_is_cell [.str x] (.bool true) := fun O => by
  obtain ⟨c, cs, hx, hl, hc, hs⟩ := h
  have hlen : x.length = cs.length + 1 := by
    have : x.length = x.cps.toList.length := by simp [Str.length]
    rw [this, hx]; rfl
  have h1 : lenV O [.str x] = some (.int (cs.length + 1)) := by
    have : cs.length + 1 ≤ sizeLine := by have : 8 ≤ sizeLine := by decide
                                          omega
    simp [lenV, asQ, hlen, this]
  have h2 : ixV O (.str x) (.int 0) = some (.str ⟨#[c]⟩) := by
    have : cs.length + 1 ≤ sizeLine := by have : 8 ≤ sizeLine := by decide
                                          omega
    simp [ixV, asD, asQ, hlen, this, hx, atI, ixN]
  have h3 : lcL (gN 1) tYs (mOp inV (mVar 1) (mOp addV (mC v_LETTERS) (mC v_DIGITS))) [some (.str x), none] ((c :: cs).map fun c => .str ⟨#[c]⟩) [] O = some ([] ++ (c :: cs).map fun _ => .bool true, O) :=
    lcL_map (h := fun c : Nat => Va.str ⟨#[c]⟩) (r := fun _ => .bool true) (c :: cs) [] fun d hd => ⟨[some (.str x), some (.str ⟨#[d]⟩)], rfl, rfl, by simp [mOp, mVar, mC, ld_ok, in_signs O d (hs d hd)]⟩
  have h4 : boolsOf ((c :: cs).map fun _ => Va.bool true) = some ((c :: cs).map fun _ => true) := boolsOf_map' (fun _ => true) (c :: cs)
  have h5 : (c :: cs).length ≤ sizeLine := by have : 8 ≤ sizeLine := by decide
                                              simp; omega
  have h6 : itemsOf (.str x) = some ((c :: cs).map fun c => .str ⟨#[c]⟩) := by simp [itemsOf, hx]
  have h7 : (1 : Int) ≤ (cs.length : Int) + 1 := by omega
  have h8 : (cs.length : Int) + 1 ≤ 8 := by omega
  have h9 : allV O [.lst ((c :: cs).map fun _ => .bool true)] = some (.bool true) := by
    simp only [allV, asL, Option.bind_some, h4, Option.map_some]
    simp
  unfold f_is_cell b_is_cell
  refine r_fn0 rfl (r_seq (r_sif0 (r_tor0 (r_tnot (p := true) (by walk_at "tv go")) (r_tor0 (r_tnot (p := true) (r_b (r_chain1 (by walk_at "tv go") (r_cb (by walk_at "tv go") h1) (by simp [leV, h7]) (by walk_at "tv go") (by simp [leV, h8, v_MAX_CELL_LENGTH])))) (r_b (r_op (r_op (by walk_at "tv go") (by walk_at "tv go") h2) (by walk_at "tv go") (in_letters O c hc))))) (by walk_at "tv go")) ?_)
  exact r_ret (r_cb (r_cons (r_lc (r_it (by walk_at "tv go") h6) (by simpa using h5) h3) (by walk_at "tv go")) h9)
theorem is_ascending_ok {l : List Str} (h : l.Pairwise sLt) (hl : l.length ≤ 36) : Pu f_is_ascending [tupS l] (.bool true) := fun O => by
  unfold f_is_ascending b_is_ascending
  have h1 : slV O (tupS l) (some 1) none = some (.tup ((l.drop 1).map Va.str)) := by
    show some (Va.tup (cut (l.map Va.str) (some 1) none)) = _
    rw [cut1, List.map_drop]
  have h2 : zipF [tupS l, .tup ((l.drop 1).map Va.str)] = some ((l.zip (l.drop 1)).map fun p => Va.tup [.str p.1, .str p.2]) := by
    show some (List.zipWith _ _ _) = _
    rw [zip_map]
  refine r_fn0 rfl (r_ret (r_cb (r_cons (r_lc (r_x (r_cons (by walk_at "tv go") (r_cons (r_sl (by walk_at "tv go") (by walk_at "tv go") (by walk_at "tv go") h1) (by walk_at "tv go"))) h2) ?_ (lcL_map (h := fun p : Str × Str => Va.tup [.str p.1, .str p.2]) (r := fun _ => .bool true) _ [] fun p hp => ⟨[some (tupS l), some (.str p.1), some (.str p.2)], rfl, rfl, ?_⟩)) (by walk_at "tv go")) ?_))
  · rw [List.length_map, List.length_zip]
    exact len36 (by omega)
  · have : ltS p.1 p.2 = true := pw_zip h p hp
    exact r_op (by walk_at "tv go") (by walk_at "tv go") (by show some (Va.bool (ltS p.1 p.2)) = _; rw [this])
  · rw [List.nil_append]; exact all_true O _
theorem isi_tup (O : So) (vs : List Va) : isiV "tuple" O (.tup vs) = some (.bool true) := by simp [isiV, tyOf, kit_tt]
theorem is_item_ok {p : Str × List Str} (hc : cellOk p.1) (hl : ∀ d ∈ p.2, cellOk d) (ha : p.2.Pairwise sLt) (h36 : p.2.length ≤ 36) : Pu f_is_item [itV p] (.bool true) := fun O => by
  unfold f_is_item b_is_item
  refine r_fn0 rfl (r_seq (r_sif0 (r_tor0 (r_tnot (p := true) (r_b (r_un (by walk_at "tv go") (isi_tup O _)))) (r_tor0 (r_b (r_op (r_cb (by walk_at "tv go") (len_t _ _)) (by walk_at "tv go") (ne_i O _ _))) (r_tor0 (r_tnot (p := true) (r_b (r_call0 (r_cons (r_op (by walk_at "tv go") (by walk_at "tv go") (ix_t0 _ _ _)) (by walk_at "tv go")) (is_cell_ok hc O)))) (r_tnot (p := true) (r_b (r_un (r_op (by walk_at "tv go") (by walk_at "tv go") (ix_t1 _ _ _ _)) (isi_tup O _))))))) (by walk_at "tv go")) ?_)
  refine r_ret (r_andT (r_cb (r_cons (r_lc (r_it (r_op (by walk_at "tv go") (by walk_at "tv go") (ix_t1 _ _ _ _)) rfl) ?_ (lcL_map (h := Va.str) (r := fun _ => .bool true) p.2 [] fun d hd => ⟨[some (itV p), some (.str d)], rfl, rfl, r_call0 (by walk_at "tv go") (is_cell_ok (hl d hd) O)⟩)) (by walk_at "tv go")) ?_) (r_call0 (r_cons (r_op (by walk_at "tv go") (by walk_at "tv go") (ix_t1 _ _ _ _)) (by walk_at "tv go")) (is_ascending_ok ha h36 O)))
  · rw [List.length_map]; exact len36 h36
  · rw [List.nil_append]; exact all_true O _
/-! cells below -/
section
variable {B : Bd} {L : Str → Str → Prop}
/-- the search from one cell -/
theorem search {A : So} {f s : Option Va} {w : Str} (h : BOk B L) : ∀ (n : Nat) (r pd : List Str) (x : Option Va), (∀ d ∈ pd, d ∈ nms B ∧ L w d) → (∀ d ∈ r, L w d) → pd.length + wt B r < n → r.length + pd.length + wt B r ≤ 10000 →
    ∃ (r' : List Str) (x' : Option Va), (∀ d ∈ r', L w d) ∧ whN (mB (mOp neV (mVar 5) (mLst aNil))) l_cells_below_1 n [some (bdV B), some (.dct (dB B fun p => tupS p.2)), f, s, some (.ref A.length), some (.ref (A.length + 1)), x] (A ++ [.dct (rK r), .lst (pd.map Va.str)]) =
      some (.nx [some (bdV B), some (.dct (dB B fun p => tupS p.2)), f, s, some (.ref A.length), some (.ref (A.length + 1)), x'], A ++ [.dct (rK r'), .lst []])
  | 0, r, pd, x, hp, hr, hn, hb => by omega
  | n + 1, r, pd, x, hp, hr, hn, hb => by
    have hc : mB (mOp neV (mVar 5) (mLst aNil)) [some (bdV B), some (.dct (dB B fun p => tupS p.2)), f, s, some (.ref A.length), some (.ref (A.length + 1)), x] (A ++ [.dct (rK r), .lst (pd.map Va.str)]) = some (decide (pd ≠ []), A ++ [.dct (rK r), .lst (pd.map Va.str)]) :=
      r_b (r_op (by walk_at "tv go") (by walk_at "tv go") (ne_nil _ _ st1))
    rw [whN, hc]
    rcases List.eq_nil_or_concat pd with e | ⟨pd', c, e⟩
    · subst e
      exact ⟨r, x, hr, rfl⟩
    · rw [List.concat_eq_append] at e
      have hne : pd ≠ [] := by rw [e]; simp
      rw [decide_eq_true hne]
      obtain ⟨hcn, hcL⟩ := hp c (by rw [e]; simp)
      obtain ⟨p, hpB, rfl⟩ := mem_nms hcn
      have hpop : popM (A ++ [.dct (rK r), .lst (pd.map Va.str)]) (A.length + 1) [] = some (.str p.1, A ++ [.dct (rK r), .lst (pd'.map Va.str)]) := by
        simp only [popM, st1, e, List.map_append, List.map_cons, List.map_nil, List.getLast?_concat, List.dropLast_concat, stS1]
      have hin : notInV (A ++ [.dct (rK r), .lst (pd'.map Va.str)]) (.str p.1) (.ref A.length) = some (.bool (decide (p.1 ∉ r))) := by
        have : asD (A ++ [.dct (rK r), .lst (pd'.map Va.str)]) (.ref A.length) = some (rK r) := by simp only [asD, st0]
        simp only [notInV, inB, this, keyOf, Option.map_some, rK_in]
        congr 2
        by_cases hr : p.1 ∈ r <;> simp [hr]
      have hlen : pd.length = pd'.length + 1 := by rw [e]; simp
      by_cases hr' : p.1 ∈ r
      · have hb1 : l_cells_below_1 [some (bdV B), some (.dct (dB B fun p => tupS p.2)), f, s, some (.ref A.length), some (.ref (A.length + 1)), x] (A ++ [.dct (rK r), .lst (pd.map Va.str)]) = some (.nx [some (bdV B), some (.dct (dB B fun p => tupS p.2)), f, s, some (.ref A.length), some (.ref (A.length + 1)), some (.str p.1)], A ++ [.dct (rK r), .lst (pd'.map Va.str)]) := by
          unfold l_cells_below_1
          refine r_seq (r_asgN (r_meth (by walk_at "tv go") st1 (by walk_at "tv go") hpop)) (r_sif0 (r_b (r_op (by walk_at "tv go") (by walk_at "tv go") (by rw [hin]; simp [hr']))) (by walk_at "tv go"))
        simp only [hb1]
        exact search h n r pd' _ (fun d hd => hp d (by rw [e]; simp [hd])) hr (by omega) (by omega)
      · have hset : setV (A ++ [.dct (rK r), .lst (pd'.map Va.str)]) (.ref A.length) (.str p.1) (.bool true) = some (A ++ [.dct (rK (r ++ [p.1])), .lst (pd'.map Va.str)]) := by
          have hz : (rK r).length < sizeLine := by
            have : 10000 < sizeLine := by decide
            simp [rK]; omega
          simp only [setV, st0, keyOf, hz, if_true, rK_put hr', stS0]
        have hw := wt_add h.nd hpB hr'
        have hix : ixV (A ++ [.dct (rK (r ++ [p.1])), .lst (pd'.map Va.str)]) (.dct (dB B fun p => tupS p.2)) (.str p.1) = some (tupS p.2) := by
          simp only [ixV, asD, keyOf, Option.bind_some, lk_dB h.nd hpB]
        have hext : extendM (A ++ [.dct (rK (r ++ [p.1])), .lst (pd'.map Va.str)]) (A.length + 1) [tupS p.2] = some (.none, A ++ [.dct (rK (r ++ [p.1])), .lst ((pd' ++ p.2).map Va.str)]) := by
          have hz : (pd'.map Va.str).length + (p.2.map Va.str).length ≤ sizeLine := by
            have : 10000 < sizeLine := by decide
            simp; omega
          simp only [extendM, st1, tupS, asQ, hz, if_true, stS1, List.map_append]
        have hb1 : l_cells_below_1 [some (bdV B), some (.dct (dB B fun p => tupS p.2)), f, s, some (.ref A.length), some (.ref (A.length + 1)), x] (A ++ [.dct (rK r), .lst (pd.map Va.str)]) = some (.nx [some (bdV B), some (.dct (dB B fun p => tupS p.2)), f, s, some (.ref A.length), some (.ref (A.length + 1)), some (.str p.1)], A ++ [.dct (rK (r ++ [p.1])), .lst ((pd' ++ p.2).map Va.str)]) := by
          unfold l_cells_below_1
          refine r_seq (r_asgN (r_meth (by walk_at "tv go") st1 (by walk_at "tv go") hpop)) (r_sif1 (r_b (r_op (by walk_at "tv go") (by walk_at "tv go") (by rw [hin]; simp [hr']))) (r_seq (r_setI (by walk_at "tv go") (by walk_at "tv go") (by walk_at "tv go") hset) (r_drop (r_meth (by walk_at "tv go") st1 (r_cons (r_op (by walk_at "tv go") (by walk_at "tv go") hix) (by walk_at "tv go")) hext))))
        simp only [hb1]
        refine search h n (r ++ [p.1]) (pd' ++ p.2) _ (fun d hd => ?_) (fun d hd => ?_) (by simp; omega) (by simp; omega)
        · rcases List.mem_append.mp hd with hd | hd
          · exact hp d (by rw [e]; simp [hd])
          · exact ⟨h.low p hpB d hd, h.trans w p.1 d hcL (by rw [lo_of h.nd hpB]; exact hd)⟩
        · rcases List.mem_append.mp hd with hd | hd
          · exact hr d hd
          · simp at hd; rw [hd]; exact hcL
theorem its_dB (f : Str × List Str → Va) : itemsOf (.dct (dB B f)) = some (B.map fun p => .str p.1) := by
  simp only [itemsOf, dB, List.map_map]
  rfl
theorem cells_below_ok (h : BOk B L) (O : So) : ∃ R : Str → List Str, (∀ p ∈ B, ∀ d ∈ R p.1, L p.1 d) ∧ f_cells_below [bdV B] O = some (.dct (dB B fun p => .dct (rK (R p.1))), O) := by
  obtain ⟨Γ', O', hf, R, D, x3, x4, x5, x6, hR, rfl, rfl⟩ := for_inv (g := gN 3) (h := fun p : Str × List Str => Va.str p.1) (b := l_cells_below_2) (xs := B) (Γ := [some (bdV B), some (.dct (dB B fun p => tupS p.2)), some (.ref O.length), none, none, none, none]) (O := O ++ [.dct []])
    (fun i Γ O' => ∃ (R : Str → List Str) (D : So) (x3 x4 x5 x6 : Option Va), (∀ p ∈ B.take i, ∀ d ∈ R p.1, L p.1 d) ∧ Γ = [some (bdV B), some (.dct (dB B fun p => tupS p.2)), some (.ref O.length), x3, x4, x5, x6] ∧ O' = O ++ (.dct (dB (B.take i) fun p => .dct (rK (R p.1))) :: D)) ⟨fun _ => [], [], none, none, none, none, by simp, rfl, by simp [dB]⟩ (by
      rintro i p Γ O' hi ⟨R, D, x3, x4, x5, x6, hR, rfl, rfl⟩
      have hp : p ∈ B := List.mem_of_getElem? hi
      generalize hA : O ++ (.dct (dB (B.take i) fun p => .dct (rK (R p.1))) :: D) = A
      have hix : ixV (A ++ [.dct []]) (.dct (dB B fun p => tupS p.2)) (.str p.1) = some (tupS p.2) := by simp only [ixV, asD, keyOf, Option.bind_some, lk_dB h.nd hp]
      obtain ⟨r', x', hr', hw⟩ := search (A := A) (f := some (.ref O.length)) (s := some (.str p.1)) (w := p.1) h (37 * 36 + 37) [] p.2 x6 (fun d hd => ⟨h.low p hp d hd, h.below p hp d hd⟩) (by simp) (by have := h.wt_le []; have := h.lowlen hp; omega) (by have := h.wt_le []; have := h.lowlen hp; simp; omega)
      have hw := sWhile_of hw
      have hget : (A ++ [Ob.dead, Ob.dead])[O.length]? = some (.dct (dB (B.take i) fun p => .dct (rK (R p.1)))) := by rw [← hA]; simp
      have hset : (A ++ [Ob.dead, Ob.dead]).set O.length (.dct (dB (B.take (i + 1)) fun q => .dct (rK ((fun c => if c = p.1 then r' else R c) q.1)))) = O ++ (.dct (dB (B.take (i + 1)) fun q => .dct (rK ((fun c => if c = p.1 then r' else R c) q.1))) :: (D ++ [.dead, .dead])) := by rw [← hA]; simp [List.set_append]
      have hfd : dB (B.take (i + 1)) (fun q => .dct (rK ((fun c => if c = p.1 then r' else R c) q.1))) = pt (dB (B.take i) fun p => .dct (rK (R p.1))) (.inr p.1) (.dct (rK r')) := by
        rw [dB_take (f := fun p => .dct (rK (R p.1))) hi (fun q hq => by simp [notin_take h.nd hi q hq]), pt_new]
        · simp
        · intro q hq e
          obtain ⟨z, hz, rfl⟩ := List.mem_map.mp hq
          injection e with e
          exact notin_take h.nd hi z hz e
      have hsv : setV (A ++ [.dead, .dead]) (.ref O.length) (.str p.1) (.dct (rK r')) = some (O ++ (.dct (dB (B.take (i + 1)) fun q => .dct (rK ((fun c => if c = p.1 then r' else R c) q.1))) :: (D ++ [.dead, .dead]))) := by
        have hz : (dB (B.take i) fun p => .dct (rK (R p.1))).length < sizeLine := by
          have h1 : 36 < sizeLine := by decide
          have h2 := h.small
          simp [dB]; omega
        simp only [setV, hget, keyOf, hz, if_true]
        rw [← hfd, hset]
      refine ⟨_, [some (bdV B), some (.dct (dB B fun p => tupS p.2)), some (.ref O.length), some (.str p.1), some (.dct (rK r')), some (.lst []), x'], _, rfl, ?_, (fun c => if c = p.1 then r' else R c), D ++ [.dead, .dead], _, _, _, _, ?_, rfl, rfl⟩
      · unfold l_cells_below_2
        refine r_seq (r_par (r_cons (r_trD (kvs := []) rfl) (r_cons (r_trL (r_cb (r_cons (r_op (by walk_at "tv go") (by walk_at "tv go") hix) (by walk_at "tv go")) rfl)) (by walk_at "tv go")))) (r_seq (Γ1 := [some (bdV B), some (.dct (dB B fun p => tupS p.2)), some (.ref O.length), some (.str p.1), some (.ref A.length), some (.ref (A.length + 1)), x']) (O1 := A ++ [.dct (rK r'), .lst []]) ?_ (r_seq (r_fz (i := 4) rfl (y := .dct (rK r')) (O1 := A ++ [.dead, .lst []]) (by simp only [fz1, st0, stS0])) (r_seq (r_fz (i := 5) rfl (y := .lst []) (O1 := A ++ [.dead, .dead]) (by simp only [fz1, st1, stS1])) (r_setI (by walk_at "tv go") (by walk_at "tv go") (by walk_at "tv go") hsv))))
        have e1 : (A ++ [Ob.dct []]).length = A.length + 1 := by simp
        have e2 : A ++ [Ob.dct []] ++ [Ob.lst (p.2.map Va.str)] = A ++ [.dct (rK []), .lst (p.2.map Va.str)] := by simp [rK]
        rw [e1, e2]
        exact hw
      · intro q hq d hd
        rw [List.take_add_one, hi, Option.toList_some, List.mem_append, List.mem_singleton] at hq
        rcases hq with hq | hq
        · simp only [notin_take h.nd hi q hq, if_false] at hd
          exact hR q hq d hd
        · subst hq
          simp only [if_true] at hd
          exact hr' d hd)
  rw [List.take_length] at hf
  simp only [List.take_length] at hR
  refine ⟨R, hR, ?_⟩
  unfold f_cells_below b_cells_below
  have hb : below O.length (.dct (dB B fun p => .dct (rK (R p.1)))) = true := by
    have h1 : ∀ (n : Nat) (l : List Str), belowKV n (rK l) = true := fun n l => by
      induction l with
      | nil => rfl
      | cons a l ih => simpa [rK, belowKV, below] using ih
    have h2 : ∀ (n : Nat) (l : Bd), belowKV n (dB l fun p => .dct (rK (R p.1))) = true := fun n l => by
      induction l with
      | nil => rfl
      | cons a l ih => simp only [dB, List.map_cons, belowKV, below, h1, Bool.true_and]; exact ih
    rw [below]
    exact h2 _ _
  have e := r_fn (np := 1) (n := 7) (args := [bdV B]) (s1 := b_cells_below) (O := O) (v := .dct (dB B fun p => .dct (rK (R p.1)))) (O1 := O ++ (.dead :: D)) rfl (by
    unfold b_cells_below
    refine r_seq (r_asgN (r_cb (by walk_at "tv go") (dictV_bd h.nd O))) (r_seq (r_asgN (r_trD (kvs := []) rfl)) (r_seq (r_for (r_it (by walk_at "tv go") (its_dB _)) hf) (r_seq (r_fz (i := 2) rfl (y := .dct (dB B fun p => .dct (rK (R p.1)))) (O1 := O ++ (.dead :: D)) (by simp [fz1])) (r_ret (by walk_at "tv go")))))
    )
  rw [gc_app hb] at e
  exact e
end
end
end TV
end
-- Q3
section
set_option Elab.async false
set_option linter.all false
set_option maxRecDepth 100000
set_option maxHeartbeats 2000000
namespace TV
open PySem L2
open TB (lk pt)
/-! Q3: the checks. -/
section
variable {B : Bd} {L : Str → Str → Prop}
theorem fm_len {α β : Type} (l : List α) (m : List β) : (l.flatMap fun _ => m).length = l.length * m.length := by
  induction l with
  | nil => simp
  | cons a l ih => rw [List.flatMap_cons, List.length_append, ih, List.length_cons, Nat.succ_mul, Nat.add_comm]
theorem enum_bd : enumF [bdV B] = some ((B.map itV).mapIdx fun i x => Va.tup [.int (i : Int), x]) := rfl
theorem in_dct (O : So) (kvs : List (Key × Va)) (c : Str) : inV O (.str c) (.dct kvs) = some (.bool (lk kvs (.inr c)).isSome) := rfl
theorem notin_dct (O : So) (kvs : List (Key × Va)) (c : Str) : notInV O (.str c) (.dct kvs) = some (.bool (!(lk kvs (.inr c)).isSome)) := rfl
theorem ix_dct (O : So) (kvs : List (Key × Va)) (c : Str) (v : Va) (h : lk kvs (.inr c) = some v) : ixV O (.dct kvs) (.str c) = some v := by simp only [ixV, asD, keyOf, Option.bind_some, h]
theorem check_board_ok (h : BOk B L) : Pu f_check_board [bdV B] .none := fun O => by
  obtain ⟨R, hR, hcb⟩ := cells_below_ok h O
  have hlen : (B.length : Int) ≤ 36 := by have := h.small; omega
  -- the four loops
  obtain ⟨Γ1, f1, a1, b1, rfl⟩ := forL_same (g := gT (gCs (gN 3) (gCs (gN 4) gNl))) (b := l_check_board_1) (O := O) (fun Γ => ∃ a b : Option Va, Γ = [some (bdV B), none, none, a, b, none, none]) ((B.map itV).mapIdx fun i x => Va.tup [.int (i : Int), x]) [some (bdV B), none, none, none, none, none, none] ⟨none, none, rfl⟩ (by
    rintro x hx Γ ⟨a, b, rfl⟩
    obtain ⟨i, p, hi, rfl⟩ := mem_enum hx
    have hp : p ∈ B := List.mem_of_getElem? hi
    refine ⟨_, [some (bdV B), none, none, some (.int (i : Int)), some (itV p), none, none], rfl, ?_, _, _, rfl⟩
    unfold l_check_board_1
    have hit := is_item_ok (p := p) (h.cell p hp) (fun d hd => by obtain ⟨q, hq, e⟩ := mem_nms (h.low p hp d hd); rw [← e]; exact h.cell q hq) (h.lasc p hp) (h.lowlen hp) O
    refine r_sif0 (r_tor0 (r_tnot (p := true) (r_b (r_call0 (by walk_at "tv go") hit))) ?_) (by walk_at "tv go")
    cases i with
    | zero => exact r_tand0 (r_b (r_op (by walk_at "tv go") (by walk_at "tv go") rfl))
    | succ j =>
      have hil := (List.getElem?_eq_some_iff.mp hi).1
      have hj : B[j]? = some B[j] := List.getElem?_eq_getElem (by omega)
      have e : ((j + 1 : Nat) : Int) - 1 = (j : Int) := by omega
      have hg : (B.map itV)[j]? = some (itV B[j]) := by rw [List.getElem?_map, hj]; rfl
      have hlt : ltS B[j].1 p.1 = true := by
        have h1 : (nms B)[j]? = some B[j].1 := by unfold nms; rw [List.getElem?_map, hj]; rfl
        have h2 : (nms B)[j + 1]? = some p.1 := by unfold nms; rw [List.getElem?_map, hi]; rfl
        have l1 := (List.getElem?_eq_some_iff.mp h1).1
        have l2 := (List.getElem?_eq_some_iff.mp h2).1
        have := List.pairwise_iff_getElem.mp h.asc j (j + 1) l1 l2 (by omega)
        rw [(List.getElem?_eq_some_iff.mp h1).2, (List.getElem?_eq_some_iff.mp h2).2] at this
        exact this
      refine r_tand1 (r_b (r_op (by walk_at "tv go") (by walk_at "tv go") (v := .bool true) (by simp only [gtV]; congr 2; rw [decide_eq_true_eq]; omega))) (r_b (r_op (r_op (by walk_at "tv go") (by walk_at "tv go") (ix_t0 _ _ _)) (r_op (r_op (by walk_at "tv go") (r_op (by walk_at "tv go") (by walk_at "tv go") (v := .int (j : Int)) (by simp [subV])) (ix_get hg)) (by walk_at "tv go") (ix_t0 _ _ _)) ?_))
      show some (Va.bool (!ltS B[j].1 p.1)) = _
      rw [hlt]; rfl)
  obtain ⟨Γ2, f2, a2, b2, rfl⟩ := forL_same (g := gT (gCs (gN 3) (gCs (gN 4) gNl))) (b := l_check_board_2) (O := O) (fun Γ => ∃ a b : Option Va, Γ = [some (bdV B), some (.dct (dB B fun p => tupS p.2)), none, a, b, none, none]) ((B.map itV).mapIdx fun i x => Va.tup [.int (i : Int), x]) [some (bdV B), some (.dct (dB B fun p => tupS p.2)), none, a1, b1, none, none] ⟨a1, b1, rfl⟩ (by
    rintro x hx Γ ⟨a, b, rfl⟩
    obtain ⟨i, p, hi, rfl⟩ := mem_enum hx
    have hp : p ∈ B := List.mem_of_getElem? hi
    refine ⟨_, [some (bdV B), some (.dct (dB B fun p => tupS p.2)), none, some (.int (i : Int)), some (itV p), none, none], rfl, ?_, _, _, rfl⟩
    unfold l_check_board_2
    refine r_sif0 (r_tnot (p := true) (r_b (r_cb (r_cons (r_lc (r_it (r_op (by walk_at "tv go") (by walk_at "tv go") (ix_t1 _ _ _ _)) rfl) (by rw [List.length_map]; exact len36 (h.lowlen hp)) (lcL_map (h := Va.str) (r := fun _ => .bool true) p.2 [] fun d hd => ⟨[some (bdV B), some (.dct (dB B fun p => tupS p.2)), none, some (.int (i : Int)), some (itV p), some (.str d), none], rfl, rfl, r_op (by walk_at "tv go") (by walk_at "tv go") (by rw [in_dct, mem_dB (h.low p hp d hd)])⟩)) (by walk_at "tv go")) (by rw [List.nil_append]; exact all_true O _)))) (by walk_at "tv go"))
  obtain ⟨Γ3, f3, a3, b3, rfl⟩ := forL_same (g := gT (gCs (gN 3) (gCs (gN 4) gNl))) (b := l_check_board_3) (O := O) (fun Γ => ∃ a b : Option Va, Γ = [some (bdV B), some (.dct (dB B fun p => tupS p.2)), some (.dct (dB B fun p => .dct (rK (R p.1)))), a, b, none, none]) ((B.map itV).mapIdx fun i x => Va.tup [.int (i : Int), x]) [some (bdV B), some (.dct (dB B fun p => tupS p.2)), some (.dct (dB B fun p => .dct (rK (R p.1)))), a2, b2, none, none] ⟨a2, b2, rfl⟩ (by
    rintro x hx Γ ⟨a, b, rfl⟩
    obtain ⟨i, p, hi, rfl⟩ := mem_enum hx
    have hp : p ∈ B := List.mem_of_getElem? hi
    refine ⟨_, [some (bdV B), some (.dct (dB B fun p => tupS p.2)), some (.dct (dB B fun p => .dct (rK (R p.1)))), some (.int (i : Int)), some (itV p), none, none], rfl, ?_, _, _, rfl⟩
    unfold l_check_board_3
    have hno : p.1 ∉ R p.1 := fun hm => h.irr p hp (hR p hp p.1 hm)
    exact r_sif0 (r_b (r_op (r_op (by walk_at "tv go") (by walk_at "tv go") (ix_t0 _ _ _)) (r_op (by walk_at "tv go") (r_op (by walk_at "tv go") (by walk_at "tv go") (ix_t0 _ _ _)) (ix_dct _ _ _ _ (lk_dB h.nd hp))) (by rw [in_dct, rK_in, decide_eq_false hno]))) (by walk_at "tv go"))
  obtain ⟨Γ4, f4, a4, b4, rfl⟩ := forL_same (g := gT (gCs (gN 3) (gCs (gN 4) gNl))) (b := l_check_board_4) (O := O) (fun Γ => ∃ a b : Option Va, Γ = [some (bdV B), some (.dct (dB B fun p => tupS p.2)), some (.dct (dB B fun p => .dct (rK (R p.1)))), a, b, none, none]) ((B.map itV).mapIdx fun i x => Va.tup [.int (i : Int), x]) [some (bdV B), some (.dct (dB B fun p => tupS p.2)), some (.dct (dB B fun p => .dct (rK (R p.1)))), a3, b3, none, none] ⟨a3, b3, rfl⟩ (by
    rintro x hx Γ ⟨a, b, rfl⟩
    obtain ⟨i, p, hi, rfl⟩ := mem_enum hx
    have hp : p ∈ B := List.mem_of_getElem? hi
    refine ⟨_, [some (bdV B), some (.dct (dB B fun p => tupS p.2)), some (.dct (dB B fun p => .dct (rK (R p.1)))), some (.int (i : Int)), some (itV p), none, none], rfl, ?_, _, _, rfl⟩
    unfold l_check_board_4
    have e : (p.2.flatMap fun _ => p.2.map fun _ => Va.bool false) = (p.2.flatMap fun _ => p.2).map fun _ => Va.bool false := by rw [List.map_flatMap]
    refine r_sif0 (r_b (r_cb (r_cons (r_lc2 (r_it (r_op (by walk_at "tv go") (by walk_at "tv go") (ix_t1 _ _ _ _)) rfl) (lcM_map (h := Va.str) (k := Va.str) (ys := fun _ => p.2) (r := fun _ _ => .bool false) p.2 [] fun d hd => ⟨[some (bdV B), some (.dct (dB B fun p => tupS p.2)), some (.dct (dB B fun p => .dct (rK (R p.1)))), some (.int (i : Int)), some (itV p), some (.str d), none], rfl, rfl, r_it (r_op (by walk_at "tv go") (by walk_at "tv go") (ix_t1 _ _ _ _)) rfl, fun c hc => ⟨[some (bdV B), some (.dct (dB B fun p => tupS p.2)), some (.dct (dB B fun p => .dct (rK (R p.1)))), some (.int (i : Int)), some (itV p), some (.str d), some (.str c)], rfl, rfl, ?_⟩⟩) ?_) (by walk_at "tv go")) ?_)) (by walk_at "tv go")
    · obtain ⟨q, hq, eq⟩ := mem_nms (h.low p hp c hc)
      subst eq
      have hno : d ∉ R q.1 := fun hm => h.red p hp d hd q.1 hc (hR q hq d hm)
      exact r_op (by walk_at "tv go") (r_op (by walk_at "tv go") (by walk_at "tv go") (ix_dct _ _ _ _ (lk_dB h.nd hq))) (by rw [in_dct, rK_in, decide_eq_false hno])
    · rw [List.nil_append, e, List.length_map]
      have h1 := h.lowlen hp
      have h2 : (p.2.flatMap fun _ => p.2).length = p.2.length * p.2.length := fm_len p.2 p.2
      have h3 : p.2.length * p.2.length ≤ 36 * 36 := Nat.mul_le_mul h1 h1
      have h4 : 36 * 36 ≤ sizeLine := by decide
      omega
    · rw [List.nil_append, e]; exact all_false O _)
  unfold f_check_board b_check_board
  refine r_fnN0 rfl (r_seq (r_sif0 (r_tor0 (r_tnot (p := true) (r_b (r_un (by walk_at "tv go") (isi_tup O _)))) (r_b (r_op (r_cb (by walk_at "tv go") (len_t _ _)) (by walk_at "tv go") (v := .bool false) (by simp [gtV, v_MAX_CELLS]; omega)))) (by walk_at "tv go")) (r_seq (r_for (r_x (by walk_at "tv go") enum_bd) f1) (r_seq (r_asgN (r_cb (by walk_at "tv go") (dictV_bd h.nd O))) (r_seq (r_for (r_x (by walk_at "tv go") enum_bd) f2) (r_seq (r_asgN (r_call0 (by walk_at "tv go") hcb)) (r_seq (r_for (r_x (by walk_at "tv go") enum_bd) f3) (r_for (r_x (by walk_at "tv go") enum_bd) f4)))))))
/-! labels, bounds, cells -/
def labV (B : Bd) (v : Str → Rat) : Va := .tup (B.map fun p => fq (v p.1))
def bnV (f g : Rat) : Va := .tup [fq f, fq g]
theorem len_bd (O : So) : lenV O [bdV B] = some (.int B.length) := by
  show some (Va.int (B.map itV).length) = _
  rw [List.length_map]
theorem len_lab (O : So) (v : Str → Rat) : lenV O [labV B v] = some (.int B.length) := by
  show some (Va.int (B.map _).length) = _
  rw [List.length_map]
theorem check_labels_ok {v : Str → Rat} (h : BOk B L) (hv : ∀ p ∈ B, 0 < v p.1) : Pu f_check_labels [bdV B, labV B v] .none := fun O => by
  obtain ⟨Γ1, f1, a1, b1, rfl⟩ := forL_same (g := gT (gCs (gN 2) (gCs (gN 3) gNl))) (b := l_check_labels_1) (O := O) (fun Γ => ∃ a b : Option Va, Γ = [some (bdV B), some (labV B v), a, b]) ((B.map fun p => fq (v p.1)).mapIdx fun i x => Va.tup [.int (i : Int), x]) [some (bdV B), some (labV B v), none, none] ⟨none, none, rfl⟩ (by
    rintro x hx Γ ⟨a, b, rfl⟩
    obtain ⟨i, p, hi, rfl⟩ := mem_enum hx
    refine ⟨_, [some (bdV B), some (labV B v), some (.int (i : Int)), some (fq (v p.1))], rfl, ?_, _, _, rfl⟩
    unfold l_check_labels_1
    exact r_sif0 (r_tnot (p := true) (r_b (r_call0 (by walk_at "tv go") (is_fraction_ok (hv p (List.mem_of_getElem? hi)) O)))) (by walk_at "tv go"))
  unfold f_check_labels b_check_labels
  refine r_fnN0 rfl (r_seq (r_drop (r_call0 (by walk_at "tv go") (check_board_ok h O))) (r_seq (r_sif0 (r_tor0 (r_tnot (p := true) (r_b (r_un (by walk_at "tv go") (isi_tup O _)))) (r_b (r_op (r_cb (by walk_at "tv go") (len_lab O v)) (r_cb (by walk_at "tv go") (len_bd O)) (v := .bool false) (by rw [ne_i]; simp)))) (by walk_at "tv go")) (r_for (r_x (by walk_at "tv go") rfl) f1)))
theorem check_bounds_ok {f g : Rat} (hf : 0 < f) (hg : 0 < g) : Pu f_check_bounds [bnV f g] .none := fun O => by
  obtain ⟨Γ1, f1, a1, b1, rfl⟩ := forL_same (g := gT (gCs (gN 1) (gCs (gN 2) gNl))) (b := l_check_bounds_1) (O := O) (fun Γ => ∃ a b : Option Va, Γ = [some (bnV f g), a, b]) (([f, g].map fq).mapIdx fun i x => Va.tup [.int (i : Int), x]) [some (bnV f g), none, none] ⟨none, none, rfl⟩ (by
    rintro x hx Γ ⟨a, b, rfl⟩
    obtain ⟨i, p, hi, rfl⟩ := mem_enum hx
    have hp : 0 < p := by
      have := List.mem_of_getElem? hi
      simp at this
      rcases this with rfl | rfl <;> assumption
    refine ⟨_, [some (bnV f g), some (.int (i : Int)), some (fq p)], rfl, ?_, _, _, rfl⟩
    unfold l_check_bounds_1
    exact r_sif0 (r_tnot (p := true) (r_b (r_call0 (by walk_at "tv go") (is_fraction_ok hp O)))) (by walk_at "tv go"))
  unfold f_check_bounds b_check_bounds
  exact r_fnN0 rfl (r_seq (r_sif0 (r_tor0 (r_tnot (p := true) (r_b (r_un (by walk_at "tv go") (isi_tup O _)))) (r_b (r_op (r_cb (by walk_at "tv go") (len_t _ _)) (by walk_at "tv go") (v := .bool false) (by rw [ne_i]; rfl)))) (by walk_at "tv go")) (r_for (r_x (by walk_at "tv go") rfl) f1))
theorem check_cell_ok (h : BOk B L) {c : Str} (hc : c ∈ nms B) : Pu f_check_cell [bdV B, .str c] .none := fun O => by
  unfold f_check_cell b_check_cell
  exact r_fnN0 rfl (r_seq (r_drop (r_call0 (by walk_at "tv go") (check_board_ok h O))) (r_sif0 (r_tor0 (r_tnot (p := true) (r_b (r_un (by walk_at "tv go") (by simp [isiV, tyOf, kit_ss])))) (r_b (r_op (by walk_at "tv go") (r_cb (by walk_at "tv go") (dictV_bd h.nd O)) (by rw [notin_dct, mem_dB hc]; rfl)))) (by walk_at "tv go")))
end
end TV
end
-- Q4
section
set_option Elab.async false
set_option linter.all false
set_option maxRecDepth 100000
set_option maxHeartbeats 2000000
set_option exponentiation.threshold 500000
namespace TV
open PySem L2
open TB (lk pt)
/-! Q4: toggles. -/
section
open TB (sz sz_div sz_add sz_mul sz_inv num_pos den_pos red_num red_den add_frac mul_frac gcd_fr num_inv_pos den_inv_pos)
variable {B : Bd} {L : Str → Str → Prop}
theorem nodup_tail {a : Str × List Str} (h : (nms (a :: B)).Nodup) : (nms B).Nodup := by
  simp only [nms, List.map_cons, List.nodup_cons] at h
  exact h.2
theorem dc_refs {x y : Option Va} : ∀ (B' : Bd) (acc : List (Key × Va)) (A : So), (nms B').Nodup → (∀ q ∈ acc, ∀ p ∈ B', q.1 ≠ .inr p.1) →
    dcL (gT (gCs (gN 2) (gCs (gN 3) gNl))) tYs (mVar 2) (mTr (mLst aNil)) [x, y, none, none, none] (B'.map itV) acc A = some (acc ++ dI B' fun i p => .ref (A.length + i), A ++ lsS B' fun _ => [])
  | [], acc, A, _, _ => by simp [dcL, dI, lsS]
  | p :: B', acc, A, nd, hd => by
    have e1 : gT (gCs (gN 2) (gCs (gN 3) gNl)) (itV p) [x, y, none, none, none] = some [x, y, some (.str p.1), some (tupS p.2), none] := rfl
    have e2 : mTr (mLst aNil) [x, y, some (.str p.1), some (tupS p.2), none] A = some (.ref A.length, A ++ [.lst []]) := r_trL (r_lst r_nil (by decide))
    have e3 := dc_refs (x := x) (y := y) B' (pt acc (.inr p.1) (.ref A.length)) (A ++ [.lst []]) (nodup_tail nd) (by
      intro q hq z hz
      rw [pt_new fun q hq => hd q hq p List.mem_cons_self] at hq
      rcases List.mem_append.mp hq with hq | hq
      · exact hd q hq z (List.mem_cons_of_mem _ hz)
      · simp at hq
        subst hq
        intro e
        injection e with e
        simp only [nms, List.map_cons, List.nodup_cons] at nd
        exact nd.1 (List.mem_map.mpr ⟨z, hz, e.symm⟩))
    rw [List.map_cons, dcL, e1]
    simp only [tYs, mVar, List.getElem?_cons_succ, List.getElem?_cons_zero, keyOf, e2]
    rw [e3, pt_new fun q hq => hd q hq p List.mem_cons_self, dI_cons]
    simp [lsS, Nat.add_assoc, Nat.add_comm 1]
theorem below_strs (n : Nat) (l : List Str) : belowAll n (l.map Va.str) = true := by
  induction l with
  | nil => rfl
  | cons a l ih => simpa [belowAll, below] using ih
theorem its_bd : itemsOf (bdV B) = some (B.map itV) := rfl
/-- a dict of labels -/
def vD (B : Bd) (v : Str → Rat) : List (Key × Va) := dB B fun p => fq (v p.1)
def lsum (v : Str → Rat) (f : Rat) (l : List Str) : Rat := if l = [] then f else (l.map v).sum
def usum (v : Str → Rat) (g : Rat) (l : List Str) : Rat := if l = [] then g⁻¹ else (l.map fun u => (v u)⁻¹).sum
/-- the toggled label -/
def tg (B : Bd) (v : Str → Rat) (f g : Rat) (c : Str) : Rat := lsum v f (lo B c) * (usum v g (up B c))⁻¹ * (v c)⁻¹
theorem up_in {c u : Str} (h : u ∈ up B c) : u ∈ nms B := by
  unfold up at h
  obtain ⟨p, hp, rfl⟩ := List.mem_map.mp h
  exact List.mem_map.mpr ⟨p, (List.mem_filter.mp hp).1, rfl⟩
theorem ix_vD (nd : (nms B).Nodup) {O : So} {X : Va} {v : Str → Rat} (hX : asD O X = some (vD B v)) {c : Str} (hc : c ∈ nms B) : ixV O X (.str c) = some (fq (v c)) := by
  obtain ⟨p, hp, rfl⟩ := mem_nms hc
  have := lk_dB (f := fun p => fq (v p.1)) nd hp
  simp only [ixV, hX, keyOf, Option.bind_some]
  exact this
theorem ne_tup (O : So) (l : List Str) : neV O (tupS l) (.tup []) = some (.bool (decide (l ≠ []))) := by
  have e3 : pl 60 (tupS l) = true := by rw [tupS, pl]; exact pl_strs 59 l
  unfold neV
  rw [show unref O (tupS l) = tupS l from rfl, show unref O (.tup []) = .tup [] from rfl, if_pos ⟨e3, rfl⟩]
  cases l <;> rfl
/-- the sizes with which a label is toggled -/
structure TSz (B : Bd) (v : Str → Rat) (f g : Rat) (c : Str) (n a b d : Nat) : Prop where
  all : ∀ q ∈ B, sz n (v q.1)
  bf : sz n f
  bg : sz n g
  nl : (n + 1) * max (lo B c).length 1 + 1 ≤ 9000
  nu : (n + 1) * max (up B c).length 1 + 1 ≤ 9000
  sa : sz a (lsum v f (lo B c))
  sb : sz b (usum v g (up B c))
  sd : sz d (v c)
  tot : a + b + d ≤ 9000
/-- labels and bounds are positive -/
structure Pos (B : Bd) (v : Str → Rat) (f g : Rat) : Prop where
  lab : ∀ q ∈ B, 0 < v q.1
  fl : 0 < f
  ce : 0 < g
theorem Pos.nm {v : Str → Rat} {f g : Rat} (h : Pos B v f g) {c : Str} (hc : c ∈ nms B) : 0 < v c := by
  obtain ⟨p, hp, rfl⟩ := mem_nms hc
  exact h.lab p hp
theorem sum_pos {l : List Rat} (h : ∀ q ∈ l, 0 < q) (hn : l ≠ []) : 0 < l.sum := by
  induction l with
  | nil => exact absurd rfl hn
  | cons a l ih =>
    rw [List.sum_cons]
    have h1 := h a List.mem_cons_self
    have h2 := sum_nn (qs := l) fun x hx => Rat.le_of_lt (h x (List.mem_cons_of_mem _ hx))
    grind
theorem lsum_pos {v : Str → Rat} {f g : Rat} (h : Pos B v f g) {l : List Str} (hl : ∀ c ∈ l, c ∈ nms B) : 0 < lsum v f l := by
  unfold lsum
  split
  · exact h.fl
  · rename_i hn
    refine sum_pos (fun q hq => ?_) (by simpa using hn)
    obtain ⟨c, hc, rfl⟩ := List.mem_map.mp hq
    exact h.nm (hl c hc)
theorem usum_pos {v : Str → Rat} {f g : Rat} (h : Pos B v f g) {l : List Str} (hl : ∀ c ∈ l, c ∈ nms B) : 0 < usum v g l := by
  unfold usum
  split
  · exact Rat.inv_pos.mpr h.ce
  · rename_i hn
    refine sum_pos (fun q hq => ?_) (by simpa using hn)
    obtain ⟨c, hc, rfl⟩ := List.mem_map.mp hq
    exact Rat.inv_pos.mpr (h.nm (hl c hc))
def upl (v : Str → Rat) (g : Rat) (l : List Str) : List Rat := if l = [] then [g] else l.map v
theorem usum_eq (v : Str → Rat) (g : Rat) (l : List Str) : usum v g l = ((upl v g l).map fun q => q⁻¹).sum := by
  unfold usum upl
  split
  · simp [Rat.add_zero]
  · rw [List.map_map]; rfl
theorem rev_fq (O : So) {q : Rat} (h : 0 < q) : revV O (fq q) = some (fq q⁻¹) := by
  rw [← fq_inv h]; rfl
theorem low_in (h : BOk B L) {c d : Str} (hd : d ∈ lo B c) : d ∈ nms B := by
  unfold lo at hd
  cases hf : B.find? fun p => decide (p.1 = c) with
  | none => rw [hf] at hd; simp at hd
  | some p => rw [hf] at hd; exact h.low p (List.mem_of_find?_eq_some hf) d hd
theorem mul_sz (O : So) {i j : Int} {a b : Nat} (hi : i.natAbs < 2 ^ a) (hj : j.natAbs < 2 ^ b) (ha : a ≤ 400000) (hb : b ≤ 400000) : mulV O (.int i) (.int j) = some (.int (i * j)) := mul_ok O (Nat.lt_of_lt_of_le hi (Nat.pow_le_pow_right (by decide) ha)) (Nat.lt_of_lt_of_le hj (Nat.pow_le_pow_right (by decide) hb))
/-! the law's own toggles -/
theorem keys_dI {f : Nat → Str × List Str → Va} : (dI B f).map (·.1) = (nms B).map fun x => (Sum.inr x : Key) := by
  unfold dI nms
  rw [List.map_map]
  apply List.ext_getElem?
  intro i
  rw [List.getElem?_map, List.getElem?_mapIdx, List.getElem?_map]
  cases B[i]? <;> rfl
end
end TV
end
-- Q5
section
set_option Elab.async false
set_option linter.all false
set_option maxRecDepth 100000
set_option maxHeartbeats 2000000
set_option exponentiation.threshold 500000
namespace TV
open PySem L2
open TB (lk pt)
/-! Q5: toggles of sequences. -/
section
open TB (sz sz_div sz_add sz_mul sz_inv num_pos den_pos red_num red_den add_frac mul_frac gcd_fr num_inv_pos den_inv_pos)
variable {B : Bd} {L : Str → Str → Prop}
/-! sequences -/
def set1 (v : Str → Rat) (c : Str) (x : Rat) : Str → Rat := fun d => if d = c then x else v d
def tgs (B : Bd) (f g : Rat) : (Str → Rat) → List Str → Str → Rat
  | v, [] => v
  | v, c :: cs => tgs B f g (set1 v c (tg B v f g c)) cs
inductive SeqOk (B : Bd) (f g : Rat) : (Str → Rat) → List Str → Prop
  | nil {v : Str → Rat} : SeqOk B f g v []
  | cons {v : Str → Rat} {c : Str} {cs : List Str} {n a b d : Nat} (hc : c ∈ nms B) (S : TSz B v f g c n a b d) (r : SeqOk B f g (set1 v c (tg B v f g c)) cs) : SeqOk B f g v (c :: cs)
theorem tg_pos {v : Str → Rat} {f g : Rat} (h : BOk B L) (P : Pos B v f g) {c : Str} (hc : c ∈ nms B) : 0 < tg B v f g c := by
  unfold tg
  exact Rat.mul_pos (Rat.mul_pos (lsum_pos P fun z hz => low_in h hz) (Rat.inv_pos.mpr (usum_pos P fun z hz => up_in hz))) (Rat.inv_pos.mpr (P.nm hc))
theorem Pos.set {v : Str → Rat} {f g x : Rat} (P : Pos B v f g) (hx : 0 < x) (c : Str) : Pos B (set1 v c x) f g := ⟨fun q hq => by
  unfold set1
  split
  · exact hx
  · exact P.lab q hq, P.fl, P.ce⟩
/-! toggle -/
theorem its_lab (v : Str → Rat) : itemsOf (labV B v) = some (B.map fun p => fq (v p.1)) := rfl
theorem zipF_bl {v : Str → Rat} : zipF [bdV B, labV B v] = some (B.map fun p => .tup [itV p, fq (v p.1)]) := by
  show some (List.zipWith _ _ _) = _
  congr 1
  induction B with
  | nil => rfl
  | cons a l ih => simpa using ih
theorem SeqOk.pos {f g : Rat} (h : BOk B L) : ∀ {cs : List Str} {v : Str → Rat}, Pos B v f g → SeqOk B f g v cs → Pos B (tgs B f g v cs) f g
  | [], v, P, _ => P
  | c :: cs, v, P, hs => by
    cases hs with
    | cons hc S r => exact SeqOk.pos (v := set1 v c (tg B v f g c)) (cs := cs) h (P.set (tg_pos h P hc) c) r
end
end TV
end
-- Q6
section
set_option Elab.async false
set_option linter.all false
set_option maxRecDepth 100000
set_option maxHeartbeats 2000000
set_option exponentiation.threshold 500000
namespace TV
open PySem L2
open TB (lk pt)
/-! Q6: the edge sum. -/
section
open TB (sz sz_div sz_add sz_mul sz_inv num_pos den_pos red_num red_den add_frac mul_frac gcd_fr num_inv_pos den_inv_pos)
variable {B : Bd} {L : Str → Str → Prop}
def ins (r : List Str) (c : Str) : List Str := if c ∈ r then r else r ++ [c]
theorem rK_ins (r : List Str) (c : Str) : pt (rK r) (.inr c) (.bool true) = rK (ins r c) := by
  unfold ins
  split
  · rename_i h
    unfold pt
    rw [if_pos]
    · conv => rhs; rw [← List.map_id (rK r)]
      apply List.map_congr_left
      intro p hp
      unfold rK at hp
      obtain ⟨d, hd, rfl⟩ := List.mem_map.mp hp
      by_cases e : d = c
      · subst e; simp
      · have : ¬ ((Sum.inr d : Key) = .inr c) := fun e2 => by injection e2 with e2; exact e e2
        simp [this]
    · rw [List.any_eq_true]
      exact ⟨_, List.mem_map.mpr ⟨c, h, rfl⟩, by simp⟩
  · rename_i h
    exact rK_put h
theorem mem_ins {r : List Str} {c d : Str} : d ∈ ins r c ↔ d ∈ r ∨ d = c := by
  unfold ins
  split
  · rename_i h
    constructor
    · exact Or.inl
    · rintro (h1 | rfl)
      · exact h1
      · exact h
  · simp
theorem ins_len (r : List Str) (c : Str) : (ins r c).length ≤ r.length + 1 := by
  unfold ins
  split <;> simp
theorem mem_foldl_ins : ∀ {l r : List Str} {d : Str}, d ∈ l.foldl ins r ↔ d ∈ r ∨ d ∈ l
  | [], r, d => by simp
  | c :: l, r, d => by
    rw [List.foldl_cons, mem_foldl_ins, mem_ins]
    simp [or_assoc]
theorem foldl_ins_len : ∀ (l r : List Str), (l.foldl ins r).length ≤ r.length + l.length
  | [], r => by simp
  | c :: l, r => by
    rw [List.foldl_cons]
    have h1 := foldl_ins_len l (ins r c)
    have h2 := ins_len r c
    simp; omega
theorem dcS_ins {x y z : Option Va} {O : So} : ∀ (l r : List Str) (w : Option Va), r.length + l.length ≤ 10000 → dcS (gN 2) tYs (mVar 2) (mC (.bool true)) [x, y, w, some z', some z''] (l.map Va.str) (rK r) O = some (rK (l.foldl ins r), O)
  | [], r, w, _ => rfl
  | c :: l, r, w, h => by
    have hz : (rK r).length < sizeLine := by
      have : 10000 < sizeLine := by decide
      simp [rK] at h ⊢; omega
    have e1 : gN 2 (.str c) [x, y, w, some z', some z''] = some [x, y, some (.str c), some z', some z''] := rfl
    rw [List.map_cons, dcS, e1]
    simp only [tYs, mVar, List.getElem?_cons_succ, List.getElem?_cons_zero, keyOf, mC, hz, if_true, rK_ins]
    rw [List.foldl_cons]
    exact dcS_ins (z := z) l (ins r c) w (by have := ins_len r c; simp at h; omega)
/-- the cells that another covers -/
def cvd (B : Bd) (r : List Str) : List Str := B.foldl (fun r p => p.2.foldl ins r) r
theorem mem_cvd : ∀ {B : Bd} {r : List Str} {d : Str}, d ∈ cvd B r ↔ d ∈ r ∨ ∃ p ∈ B, d ∈ p.2
  | [], r, d => by simp [cvd]
  | p :: B, r, d => by
    have := mem_cvd (B := B) (r := p.2.foldl ins r) (d := d)
    unfold cvd at this ⊢
    rw [List.foldl_cons, this, mem_foldl_ins]
    simp [or_assoc]
theorem dcM_cvd {x : Option Va} {O : So} : ∀ (B' : Bd) (r : List Str) (k : Nat), (∀ p ∈ B', p.2.length ≤ 36) → r.length + 36 * B'.length ≤ 5000 →
    dcM [2] (gT (gCs (gN 3) (gCs (gN 4) gNl))) tYs (mIt (mVar 4)) (gN 2) tYs (mVar 2) (mC (.bool true)) [x, none, none, none, none] (B'.map itV) (rK r) O = some (rK (cvd B' r), O)
  | [], r, k, _, _ => rfl
  | p :: B', r, k, hl, hz => by
    have e1 : gT (gCs (gN 3) (gCs (gN 4) gNl)) (itV p) [x, none, none, none, none] = some [x, none, none, some (.str p.1), some (tupS p.2)] := rfl
    have e2 : mIt (mVar 4) [x, none, none, some (.str p.1), some (tupS p.2)] O = some (p.2.map Va.str, O) := r_it (r_var rfl) rfl
    have hp := hl p List.mem_cons_self
    have e3 := dcS_ins (x := x) (y := none) (z := none) (z' := .str p.1) (z'' := tupS p.2) (O := O) p.2 r none (by simp at hz; omega)
    have e4 : wipeA [x, none, none, some (.str p.1), some (tupS p.2)] [2] = [x, none, none, some (.str p.1), some (tupS p.2)] := rfl
    rw [List.map_cons, dcM, e1]
    simp only [tYs, e2, e4, e3]
    exact dcM_cvd B' (p.2.foldl ins r) k (fun q hq => hl q (List.mem_cons_of_mem _ hq)) (by have := foldl_ins_len p.2 r; simp at hz; omega)
def mxs (B : Bd) : Bd := B.filter fun p => decide (up B p.1 = [])
theorem cvd_up {c : Str} : c ∈ cvd B [] ↔ up B c ≠ [] := by
  rw [mem_cvd]
  unfold up
  simp [List.filter_eq_nil_iff]
theorem maximal_cells_ok (h : BOk B L) : Pu f_maximal_cells [bdV B] (.lst ((mxs B).map fun p => .str p.1)) := fun O => by
  have hd := dcM_cvd (x := some (bdV B)) (O := O) B [] 0 (fun p hp => h.lowlen hp) (by have := h.small; simp; omega)
  unfold f_maximal_cells b_maximal_cells
  refine r_fn0 rfl (r_seq (r_asgN (v := .dct (rK (cvd B []))) ?_) (r_ret (r_lc (r_it (by walk_at "tv go") its_bd) (by rw [List.length_map]; exact len36 h.small) (lcL_filter (h := itV) (r := fun p => .str p.1) (p := fun p => decide (up B p.1 = [])) B [] fun p hp => ⟨_, rfl, r_b (r_op (by walk_at "tv go") (by walk_at "tv go") ?_), fun _ => by walk_at "tv go"⟩))))
  · show mDc2 _ _ _ _ _ _ _ _ _ _ _ _ = _
    unfold mDc2
    have e1 : mIt (mVar 0) (start 5 [bdV B]) O = some (B.map itV, O) := r_it (r_var rfl) its_bd
    rw [e1]
    have e2 : wipeA (start 5 [bdV B]) [3, 4, 2] = [some (bdV B), none, none, none, none] := rfl
    simp only [e2]
    have e3 : rK [] = [] := rfl
    rw [e3] at hd
    rw [hd]
  · rw [notin_dct, rK_in]
    congr 2
    by_cases e : up B p.1 = []
    · have : p.1 ∉ cvd B [] := fun hm => (cvd_up.mp hm) e
      simp [e, this]
    · have : p.1 ∈ cvd B [] := cvd_up.mpr e
      simp [e, this]
/-- the neighbours' labels -/
def nbp (v : Str → Rat) (f : Rat) (p : Str × List Str) : List (Rat × Rat) := (if p.2 = [] then [f] else p.2.map v).map fun x => (x, v p.1)
def nbs (B : Bd) (v : Str → Rat) (f g : Rat) : List (Rat × Rat) := if B = [] then [(f, g)] else B.flatMap (nbp v f) ++ (mxs B).map fun p => (v p.1, g)
def prV (p : Rat × Rat) : Va := .tup [fq p.1, fq p.2]
theorem eq_bd (O : So) : eqV O (bdV B) (.tup []) = some (.bool (decide (B = []))) := by
  have e1 : ∀ p : Str × List Str, pl 59 (itV p) = true := fun p => by
    have : plAll 57 (p.2.map Va.str) = true := pl_strs 57 p.2
    simp [itV, tupS, pl, plAll, this]
  have e3 : pl 60 (bdV B) = true := by
    rw [bdV, pl, plAll_eq, List.all_eq_true]
    intro x hx
    obtain ⟨p, _, rfl⟩ := List.mem_map.mp hx
    exact e1 p
  unfold eqV
  rw [show unref O (bdV B) = bdV B from rfl, show unref O (.tup []) = .tup [] from rfl, if_pos ⟨e3, rfl⟩]
  cases B <;> rfl
theorem ix_dctV (nd : (nms B).Nodup) (O : So) {v : Str → Rat} {c : Str} (hc : c ∈ nms B) : ixV O (.dct (vD B v)) (.str c) = some (fq (v c)) := ix_vD nd rfl hc
theorem below_pr (n : Nat) (l : List (Rat × Rat)) : belowAll n (l.map prV) = true := by
  induction l with
  | nil => rfl
  | cons a l ih => simp only [List.map_cons, belowAll, ih, Bool.and_true]; rfl
theorem nb_len (h : BOk B L) {v : Str → Rat} {f : Rat} {p : Str × List Str} (hp : p ∈ B) : (nbp v f p).length ≤ 36 := by
  unfold nbp
  rw [List.length_map]
  have := h.lowlen hp
  split
  · simp
  · simpa using this
theorem fm_take_len (h : BOk B L) {v : Str → Rat} {f : Rat} (i : Nat) : ((B.take i).flatMap (nbp v f)).length ≤ 36 * 36 := by
  have : ∀ (l : Bd), (∀ p ∈ l, p ∈ B) → (l.flatMap (nbp v f)).length ≤ 36 * l.length := fun l => by
    induction l with
    | nil => simp
    | cons a l ih =>
      intro hl
      have h1 := nb_len h (v := v) (f := f) (hl a List.mem_cons_self)
      have h2 := ih fun p hp => hl p (List.mem_cons_of_mem _ hp)
      rw [List.flatMap_cons, List.length_append, List.length_cons]
      omega
  have h1 := this (B.take i) fun p hp => List.mem_of_mem_take hp
  have h2 := h.small
  rw [List.length_take] at h1
  have : 36 * min i B.length ≤ 36 * 36 := Nat.mul_le_mul_left _ (by omega)
  omega
theorem neighbour_labels_ok {v : Str → Rat} {f g : Rat} (h : BOk B L) : Pu f_neighbour_labels [bdV B, labV B v, bnV f g] (.lst ((nbs B v f g).map prV)) := fun O => by
  have h36 := len36 h.small
  have hlen : ∀ (f : Str × List Str → Va), (B.map f).length ≤ sizeLine := fun f => by rw [List.length_map]; exact h36
  have sl : 5000 ≤ sizeLine := by decide
  by_cases hB : B = []
  · unfold f_neighbour_labels b_neighbour_labels
    have e : nbs B v f g = [(f, g)] := by unfold nbs; rw [if_pos hB]
    rw [e]
    exact r_fn0 rfl (r_seqR (r_sif1 (r_b (r_op (by walk_at "tv go") (by walk_at "tv go") (by rw [eq_bd, decide_eq_true hB]))) (r_ret (r_lst (r_cons (r_var rfl) r_nil) (by exact sl_1)))))
  · have e : nbs B v f g = B.flatMap (nbp v f) ++ (mxs B).map fun p => (v p.1, g) := by unfold nbs; rw [if_neg hB]
    rw [e]
    obtain ⟨Γ', O', hf, x5, x6, x7, rfl, rfl⟩ := for_inv (g := gT (gCs (gN 5) (gCs (gN 6) gNl))) (h := itV) (b := l_neighbour_labels_1) (xs := B) (Γ := [some (bdV B), some (labV B v), some (bnV f g), some (.dct (vD B v)), some (.ref O.length), none, none, none, none, none]) (O := O ++ [.lst []])
      (fun i Γ O' => ∃ x5 x6 x7 : Option Va, Γ = [some (bdV B), some (labV B v), some (bnV f g), some (.dct (vD B v)), some (.ref O.length), x5, x6, x7, none, none] ∧ O' = O ++ [.lst (((B.take i).flatMap (nbp v f)).map prV)]) ⟨none, none, none, rfl, rfl⟩ (by
        rintro i p Γ O' hi ⟨x5, x6, x7, rfl, rfl⟩
        have hp : p ∈ B := List.mem_of_getElem? hi
        have hl0 : ∀ z ∈ p.2, z ∈ nms B := h.low p hp
        have hpn : p.1 ∈ nms B := List.mem_map.mpr ⟨p, hp, rfl⟩
        have e2 : (B.take (i + 1)).flatMap (nbp v f) = (B.take i).flatMap (nbp v f) ++ nbp v f p := by rw [List.take_add_one, hi, Option.toList_some, List.flatMap_append]; simp
        have hbl : (if p.2 = [] then [f] else p.2.map v).length ≤ 36 := by
          have := nb_len h (v := v) (f := f) hp
          unfold nbp at this
          rwa [List.length_map] at this
        have hext : extendM (O ++ [.lst (((B.take i).flatMap (nbp v f)).map prV)]) O.length [.lst ((if p.2 = [] then [f] else p.2.map v).map fun x => prV (x, v p.1))] = some (.none, O ++ [.lst (((B.take (i + 1)).flatMap (nbp v f)).map prV)]) := by
          have h1 := fm_take_len h (v := v) (f := f) i
          have hz : (((B.take i).flatMap (nbp v f)).map prV).length + ((if p.2 = [] then [f] else p.2.map v).map fun x => prV (x, v p.1)).length ≤ sizeLine := by
            rw [List.length_map, List.length_map]
            omega
          have hg : (O ++ [Ob.lst (((B.take i).flatMap (nbp v f)).map prV)])[O.length]? = some (.lst (((B.take i).flatMap (nbp v f)).map prV)) := by simp
          simp only [extendM, hg, asQ, hz, if_true, e2, List.map_append]
          simp [nbp, List.set_append, Function.comp_def]
        refine ⟨_, [some (bdV B), some (labV B v), some (bnV f g), some (.dct (vD B v)), some (.ref O.length), some (.str p.1), some (tupS p.2), some (.lst ((if p.2 = [] then [f] else p.2.map v).map fq)), none, none], O ++ [.lst (((B.take (i + 1)).flatMap (nbp v f)).map prV)], rfl, ?_, _, _, _, rfl, rfl⟩
        unfold l_neighbour_labels_1
        refine r_seq (Γ1 := [some (bdV B), some (labV B v), some (bnV f g), some (.dct (vD B v)), some (.ref O.length), some (.str p.1), some (tupS p.2), some (.lst ((if p.2 = [] then [f] else p.2.map v).map fq)), none, none]) (O1 := O ++ [.lst (((B.take i).flatMap (nbp v f)).map prV)]) (r_asgN ?_) (r_drop (r_meth (by walk_at "tv go") st_last (r_cons (r_lc (r_it (by walk_at "tv go") rfl) (by rw [List.length_map]; omega) (lcL_map (h := fq) (r := fun x => prV (x, v p.1)) (if p.2 = [] then [f] else p.2.map v) [] fun x hx => ⟨_, rfl, rfl, r_tup (r_cons (by walk_at "tv go") (r_cons (r_op (by walk_at "tv go") (by walk_at "tv go") (ix_dctV h.nd _ hpn)) (by walk_at "tv go"))) (by exact sl_2)⟩)) (by walk_at "tv go")) hext))
        by_cases hn : p.2 = []
        · rw [if_pos hn]
          exact r_if0 (r_b (r_op (by walk_at "tv go") (by walk_at "tv go") (by rw [ne_tup]; simp [hn]))) (r_lst (r_cons (r_op (by walk_at "tv go") (by walk_at "tv go") (ix_t0 _ _ _)) (by walk_at "tv go")) (by exact sl_1))
        · rw [if_neg hn, List.map_map]
          exact r_if1 (r_b (r_op (by walk_at "tv go") (by walk_at "tv go") (by rw [ne_tup]; simp [hn]))) (r_lc (r_it (by walk_at "tv go") rfl) (by rw [List.length_map]; exact len36 (h.lowlen hp)) (lcL_map (h := Va.str) (r := fun z => fq (v z)) p.2 [] fun z hz => ⟨_, rfl, rfl, r_op (by walk_at "tv go") (by walk_at "tv go") (ix_dctV h.nd _ (hl0 z hz))⟩)))
    rw [List.take_length] at hf
    have hmx : (mxs B).length ≤ 36 := Nat.le_trans (List.length_filter_le ..) h.small
    have hb : b_neighbour_labels (start 10 [bdV B, labV B v, bnV f g]) O = some (.rt (.lst ((B.flatMap (nbp v f) ++ (mxs B).map fun p => (v p.1, g)).map prV)), O ++ [.dead]) := by
      unfold b_neighbour_labels
      refine r_seq (r_sif0 (r_b (r_op (by walk_at "tv go") (by walk_at "tv go") (by rw [eq_bd, decide_eq_false hB]))) (by walk_at "tv go")) (r_seq (r_asgN (r_dc (r_x (by walk_at "tv go") zipF_bl) (hlen _) (dc_dB (h := fun p => .tup [itV p, fq (v p.1)]) (nm := fun p => p.1) (f := fun p => fq (v p.1)) B [] h.nd (by intro q hq; cases hq) fun p hp => ⟨_, rfl, (by walk_at "tv go"), (by walk_at "tv go")⟩))) (r_seq (r_asgN (r_trL (r_lst (by walk_at "tv go") (by decide)))) (r_seq (r_for (r_it (by walk_at "tv go") its_bd) hf) (r_seq (r_fz (i := 4) rfl (y := .lst ((B.flatMap (nbp v f)).map prV)) (O1 := O ++ [.dead]) (by simp [fz1, List.set_append])) (r_ret (r_op (by walk_at "tv go") (r_lc (r_it (r_call0 (by walk_at "tv go") (maximal_cells_ok h _)) rfl) (by rw [List.length_map]; exact len36 hmx) (lcL_map (h := fun p : Str × List Str => Va.str p.1) (r := fun p => prV (v p.1, g)) (mxs B) [] fun p hp => ⟨_, rfl, rfl, r_tup (r_cons (r_op (by walk_at "tv go") (by walk_at "tv go") (ix_dctV h.nd _ (List.mem_map.mpr ⟨p, (List.mem_filter.mp hp).1, rfl⟩))) (r_cons (r_op (by walk_at "tv go") (by walk_at "tv go") (ix_t1 _ _ _ _)) (by walk_at "tv go"))) (by exact sl_2)⟩)) ?_))))))
      have h1 := fm_take_len h (v := v) (f := f) B.length
      rw [List.take_length] at h1
      have hz : ((B.flatMap (nbp v f)).map prV).length + ((mxs B).map fun p => prV (v p.1, g)).length ≤ sizeLine := by rw [List.length_map, List.length_map]; omega
      simp only [addV, asL, List.nil_append, hz, if_true, List.map_append, List.map_map, Function.comp_def]
    have e := r_fn (np := 3) (n := 10) (args := [bdV B, labV B v, bnV f g]) rfl hb
    rw [gc_app (by rw [below]; exact below_pr _ _)] at e
    exact e
def ed (p : Rat × Rat) : Rat := p.1 * p.2⁻¹
def es (B : Bd) (v : Str → Rat) (f g : Rat) : Rat := ((nbs B v f g).map ed).sum
theorem nbs_in {v : Str → Rat} {f g : Rat} (h : BOk B L) {Q : Rat → Prop} (hv : ∀ q ∈ B, Q (v q.1)) (hf : Q f) (hg : Q g) : ∀ p ∈ nbs B v f g, Q p.1 ∧ Q p.2 := by
  intro p hp
  have hvn : ∀ c ∈ nms B, Q (v c) := fun c hc => by obtain ⟨q, hq, rfl⟩ := mem_nms hc; exact hv q hq
  unfold nbs at hp
  split at hp
  · simp at hp; subst hp; exact ⟨hf, hg⟩
  · rcases List.mem_append.mp hp with hp | hp
    · obtain ⟨q, hq, hp⟩ := List.mem_flatMap.mp hp
      unfold nbp at hp
      obtain ⟨x, hx, rfl⟩ := List.mem_map.mp hp
      refine ⟨?_, hv q hq⟩
      split at hx
      · simp at hx; subst hx; exact hf
      · obtain ⟨z, hz, rfl⟩ := List.mem_map.mp hx
        exact hvn z (h.low q hq z hz)
    · obtain ⟨q, hq, rfl⟩ := List.mem_map.mp hp
      exact ⟨hv q (List.mem_filter.mp hq).1, hg⟩
theorem nbs_ne {v : Str → Rat} {f g : Rat} : nbs B v f g ≠ [] := by
  unfold nbs
  split
  · simp
  · rename_i hB
    cases B with
    | nil => exact absurd rfl hB
    | cons p B =>
      intro e
      have := (List.append_eq_nil_iff.mp e).1
      rw [List.flatMap_cons] at this
      have := (List.append_eq_nil_iff.mp this).1
      unfold nbp at this
      rw [List.map_eq_nil_iff] at this
      split at this
      · cases this
      · rename_i hn; exact hn (List.map_eq_nil_iff.mp this)
theorem nbs_len (h : BOk B L) {v : Str → Rat} {f g : Rat} {k : Nat} (hk : ∀ p ∈ B, p.2.length ≤ k) (h1 : 1 ≤ k) (hB : B.length ≤ k) : (nbs B v f g).length ≤ k * (k + 1) := by
  unfold nbs
  split
  · have : 1 * 1 ≤ k * (k + 1) := Nat.mul_le_mul h1 (by omega)
    simp at this ⊢; omega
  · have : ∀ (l : Bd), (∀ p ∈ l, p.2.length ≤ k) → (l.flatMap (nbp v f)).length ≤ k * l.length := fun l => by
      induction l with
      | nil => simp
      | cons a l ih =>
        intro hl
        have h2 : (nbp v f a).length ≤ k := by
          unfold nbp
          rw [List.length_map]
          split
          · simpa using h1
          · simpa using hl a List.mem_cons_self
        have h3 := ih fun p hp => hl p (List.mem_cons_of_mem _ hp)
        rw [List.flatMap_cons, List.length_append, List.length_cons, Nat.mul_succ]
        omega
    have h2 := this B hk
    have h3 : (mxs B).length ≤ B.length := List.length_filter_le ..
    have h4 : k * B.length ≤ k * k := Nat.mul_le_mul_left _ hB
    rw [List.length_append, List.length_map, Nat.mul_succ]
    omega
theorem ix_l0 (O : So) (a : Va) (l : List Va) : ixV O (.lst (a :: l)) (.int 0) = some a := by simp [ixV, asD, asQ, atI, ixN]
end
end TV
end
-- Q7
section
set_option Elab.async false
set_option linter.all false
set_option maxRecDepth 100000
set_option maxHeartbeats 2000000
namespace TV
open PySem L2
open TB (lk pt)
/-! Q7: the algebra of toggles. -/
section
open TB (sz)
variable {B : Bd} {L : Str → Str → Prop} {v : Str → Rat} {f g : Rat} {c : Str}
theorem not_lo (h : BOk B L) (hc : c ∈ nms B) : c ∉ lo B c := fun hm => by
  obtain ⟨p, hp, rfl⟩ := mem_nms hc
  rw [lo_of h.nd hp] at hm
  exact h.irr p hp (h.below p hp p.1 hm)
theorem up_iff (h : BOk B L) {u : Str} : u ∈ up B c ↔ u ∈ nms B ∧ c ∈ lo B u := by
  unfold up
  constructor
  · intro hm
    obtain ⟨p, hp, rfl⟩ := List.mem_map.mp hm
    obtain ⟨h1, h2⟩ := List.mem_filter.mp hp
    exact ⟨List.mem_map.mpr ⟨p, h1, rfl⟩, by rw [lo_of h.nd h1]; simpa using h2⟩
  · rintro ⟨h1, h2⟩
    obtain ⟨p, hp, rfl⟩ := mem_nms h1
    rw [lo_of h.nd hp] at h2
    exact List.mem_map.mpr ⟨p, List.mem_filter.mpr ⟨hp, by simpa using h2⟩, rfl⟩
theorem not_up (h : BOk B L) (hc : c ∈ nms B) : c ∉ up B c := fun hm => not_lo h hc ((up_iff h).mp hm).2
theorem set_same (v : Str → Rat) (c : Str) (x : Rat) : set1 v c x c = x := by simp [set1]
theorem set_ne {d : Str} (v : Str → Rat) (x : Rat) (hd : d ≠ c) : set1 v c x d = v d := by simp [set1, hd]
theorem set_set1 (v : Str → Rat) (c : Str) (x y : Rat) : set1 (set1 v c x) c y = set1 v c y := by
  funext d
  by_cases e : d = c
  · subst e; simp [set1]
  · simp [set1, e]
theorem set_id (v : Str → Rat) (c : Str) : set1 v c (v c) = v := by
  funext d
  by_cases e : d = c
  · subst e; simp [set1]
  · simp [set1, e]
theorem map_set {α : Type} {F : Rat → α} {l : List Str} (hl : c ∉ l) (x : Rat) : l.map (fun d => F (set1 v c x d)) = l.map fun d => F (v d) := by
  apply List.map_congr_left
  intro d hd
  rw [set_ne]
  exact fun e => hl (by rw [← e]; exact hd)
theorem lsum_set {l : List Str} (hl : c ∉ l) (x : Rat) : lsum (set1 v c x) f l = lsum v f l := by
  unfold lsum
  split
  · rfl
  · have := map_set (v := v) (F := id) hl x
    simp only [id] at this
    rw [show (l.map (set1 v c x)) = l.map fun d => set1 v c x d from rfl, this]
theorem usum_set {l : List Str} (hl : c ∉ l) (x : Rat) : usum (set1 v c x) g l = usum v g l := by
  unfold usum
  split
  · rfl
  · rw [map_set (v := v) (F := fun q => q⁻¹) hl x]
theorem tg_set (h : BOk B L) (hc : c ∈ nms B) (x : Rat) : tg B (set1 v c x) f g c = lsum v f (lo B c) * (usum v g (up B c))⁻¹ * x⁻¹ := by
  unfold tg
  rw [lsum_set (not_lo h hc), usum_set (not_up h hc), set_same]
/-- a cell toggled twice -/
theorem tg_twice (h : BOk B L) (P : Pos B v f g) (hc : c ∈ nms B) : tg B (set1 v c (tg B v f g c)) f g c = v c := by
  rw [tg_set h hc]
  have h1 := TB.ne0 (lsum_pos P (l := lo B c) fun z hz => low_in h hz)
  have h2 := TB.ne0 (usum_pos P (l := up B c) fun z hz => up_in hz)
  have h3 := TB.ne0 (P.nm hc)
  unfold tg
  generalize lsum v f (lo B c) = a at *
  generalize usum v g (up B c) = b at *
  generalize v c = d at *
  simp only [Rat.inv_mul_rev, Rat.inv_inv]
  have e1 : a * a⁻¹ = 1 := Rat.mul_inv_cancel _ h1
  have e2 : b * b⁻¹ = 1 := Rat.mul_inv_cancel _ h2
  grind
theorem set_twice (h : BOk B L) (P : Pos B v f g) (hc : c ∈ nms B) : set1 (set1 v c (tg B v f g c)) c (tg B (set1 v c (tg B v f g c)) f g c) = v := by
  rw [tg_twice h P hc, set_set1, set_id]
/-! the edge sum -/
def Tl (v : Str → Rat) (f : Rat) (l : Bd) : Rat := (l.map fun p => lsum v f p.2 * (v p.1)⁻¹).sum
theorem ed_sum (p : Str × List Str) : ((nbp v f p).map ed).sum = lsum v f p.2 * (v p.1)⁻¹ := by
  have key : ∀ (l : List Rat) (y : Rat), ((l.map fun x => (x, y)).map ed).sum = l.sum * y⁻¹ := fun l y => by
    induction l with
    | nil => simp [Rat.zero_mul]
    | cons a l ih =>
      simp only [List.map_cons, List.sum_cons]
      rw [ih, Rat.add_mul]
      rfl
  unfold nbp
  rw [key]
  unfold lsum
  split
  · simp [Rat.add_zero]
  · rfl
theorem sum_append (a b : List Rat) : (a ++ b).sum = a.sum + b.sum := by
  induction a with
  | nil => simp [Rat.zero_add]
  | cons x a ih => rw [List.cons_append, List.sum_cons, List.sum_cons, ih, Rat.add_assoc]
theorem Tl_eq (l : Bd) : ((l.flatMap (nbp v f)).map ed).sum = Tl v f l := by
  unfold Tl
  induction l with
  | nil => rfl
  | cons p l ih => rw [List.flatMap_cons, List.map_append, sum_append, ih, ed_sum, List.map_cons, List.sum_cons]
theorem es_eq (hB : B ≠ []) : es B v f g = Tl v f B + ((mxs B).map fun p => v p.1 * g⁻¹).sum := by
  unfold es nbs
  rw [if_neg hB, List.map_append, sum_append, Tl_eq, List.map_map]
  rfl
theorem sum_in {l : List Str} (nd : l.Nodup) (hc : c ∈ l) (x : Rat) : (l.map (set1 v c x)).sum = (l.map v).sum - v c + x := by
  induction l with
  | nil => cases hc
  | cons a l ih =>
    rw [List.nodup_cons] at nd
    simp only [List.map_cons, List.sum_cons]
    by_cases e : a = c
    · subst e
      have := map_set (v := v) (c := a) (F := id) nd.1 x
      simp only [id] at this
      rw [show l.map (set1 v a x) = l.map fun d => set1 v a x d from rfl, this, set_same]
      grind
    · have hc' : c ∈ l := by
        rcases List.mem_cons.mp hc with h | h
        · exact absurd h.symm e
        · exact h
      rw [ih nd.2 hc', set_ne _ _ e]
      grind
/-- how the edge sum hangs on one label -/
theorem Tl_set (h : BOk B L) (hc : c ∈ nms B) : ∀ (l : Bd), (∀ p ∈ l, p ∈ B) → (nms l).Nodup → ∃ K : Rat, ∀ x : Rat, Tl (set1 v c x) f l = K + (if c ∈ nms l then lsum v f (lo B c) * x⁻¹ else 0) + x * ((l.filter fun p => decide (c ∈ p.2)).map fun p => (v p.1)⁻¹).sum
  | [], _, _ => ⟨0, fun x => by simp [Tl, nms]; grind⟩
  | p :: l, hl, nd => by
    have nd' : p.1 ∉ nms l ∧ (nms l).Nodup := by simpa [nms] using nd
    obtain ⟨K, hK⟩ := Tl_set h hc l (fun q hq => hl q (List.mem_cons_of_mem _ hq)) nd'.2
    have hp := hl p List.mem_cons_self
    have e0 : ∀ x, Tl (set1 v c x) f (p :: l) = lsum (set1 v c x) f p.2 * (set1 v c x p.1)⁻¹ + Tl (set1 v c x) f l := fun x => by unfold Tl; rw [List.map_cons, List.sum_cons]
    by_cases e : p.1 = c
    · subst e
      have hno : p.1 ∉ p.2 := fun hm => h.irr p hp (h.below p hp p.1 hm)
      refine ⟨K, fun x => ?_⟩
      rw [e0, hK, lsum_set hno, set_same, lo_of h.nd hp, if_neg nd'.1, if_pos (by simp [nms]), List.filter_cons_of_neg (by simpa using hno)]
      grind
    · by_cases hm : c ∈ p.2
      · have hne : p.2 ≠ [] := fun z => by rw [z] at hm; cases hm
        refine ⟨K + ((p.2.map v).sum - v c) * (v p.1)⁻¹, fun x => ?_⟩
        have e1 : lsum (set1 v c x) f p.2 = (p.2.map v).sum - v c + x := by unfold lsum; rw [if_neg hne]; exact sum_in (pw_nodup (h.lasc p hp)) hm x
        rw [e0, hK, e1, set_ne _ _ e, List.filter_cons_of_pos (by simpa using hm), List.map_cons, List.sum_cons]
        have e2 : (c ∈ nms (p :: l)) ↔ c ∈ nms l := by simp [nms, Ne.symm e]
        simp only [e2]
        grind
      · refine ⟨K + lsum v f p.2 * (v p.1)⁻¹, fun x => ?_⟩
        rw [e0, hK, lsum_set hm, set_ne _ _ e, List.filter_cons_of_neg (by simpa using hm)]
        have e2 : (c ∈ nms (p :: l)) ↔ c ∈ nms l := by simp [nms, Ne.symm e]
        simp only [e2]
        grind
theorem mx_set : ∀ (l : Bd), (nms l).Nodup → ∃ K : Rat, ∀ x : Rat, (l.map fun p => set1 v c x p.1 * g⁻¹).sum = K + if c ∈ nms l then x * g⁻¹ else 0
  | [], _ => ⟨0, fun x => by simp [nms]; grind⟩
  | p :: l, nd => by
    have nd' : p.1 ∉ nms l ∧ (nms l).Nodup := by simpa [nms] using nd
    obtain ⟨K, hK⟩ := mx_set l nd'.2
    by_cases e : p.1 = c
    · subst e
      refine ⟨K, fun x => ?_⟩
      rw [List.map_cons, List.sum_cons, hK, set_same, if_neg nd'.1, if_pos (by simp [nms])]
      grind
    · refine ⟨K + v p.1 * g⁻¹, fun x => ?_⟩
      have e2 : (c ∈ nms (p :: l)) ↔ c ∈ nms l := by simp [nms, Ne.symm e]
      rw [List.map_cons, List.sum_cons, hK, set_ne _ _ e]
      simp only [e2]
      grind
theorem mxs_nd (h : BOk B L) : (nms (mxs B)).Nodup := by
  have : (nms (mxs B)).Sublist (nms B) := List.Sublist.map _ List.filter_sublist
  exact this.nodup h.nd
theorem mem_mxs (h : BOk B L) (hc : c ∈ nms B) : c ∈ nms (mxs B) ↔ up B c = [] := by
  constructor
  · intro hm
    obtain ⟨p, hp, rfl⟩ := mem_nms hm
    simpa using (List.mem_filter.mp hp).2
  · intro e
    obtain ⟨p, hp, rfl⟩ := mem_nms hc
    exact List.mem_map.mpr ⟨p, List.mem_filter.mpr ⟨hp, by simpa using e⟩, rfl⟩
theorem es_set (h : BOk B L) (hc : c ∈ nms B) : ∃ K : Rat, ∀ x : Rat, es B (set1 v c x) f g = K + lsum v f (lo B c) * x⁻¹ + x * usum v g (up B c) := by
  have hB : B ≠ [] := fun e => by rw [e] at hc; cases hc
  obtain ⟨K1, h1⟩ := Tl_set (v := v) (f := f) h hc B (fun p hp => hp) h.nd
  obtain ⟨K2, h2⟩ := mx_set (v := v) (g := g) (c := c) (mxs B) (mxs_nd h)
  refine ⟨K1 + K2, fun x => ?_⟩
  have e3 : ((B.filter fun p => decide (c ∈ p.2)).map fun p => (v p.1)⁻¹).sum = ((up B c).map fun u => (v u)⁻¹).sum := by unfold up; rw [List.map_map]; rfl
  rw [es_eq hB, h1, h2, if_pos hc, e3]
  unfold usum
  by_cases e : up B c = []
  · rw [if_pos ((mem_mxs h hc).mpr e), if_pos e, e]
    simp
    grind
  · rw [if_neg (fun hm => e ((mem_mxs h hc).mp hm)), if_neg e]
    grind
/-- a toggle keeps the edge sum -/
theorem es_tg (h : BOk B L) (P : Pos B v f g) (hc : c ∈ nms B) : es B (set1 v c (tg B v f g c)) f g = es B v f g := by
  obtain ⟨K, hK⟩ := es_set (v := v) (f := f) (g := g) h hc
  have e0 := hK (v c)
  rw [set_id] at e0
  rw [hK, e0]
  have h1 := TB.ne0 (lsum_pos P (l := lo B c) fun z hz => low_in h hz)
  have h2 := TB.ne0 (usum_pos P (l := up B c) fun z hz => up_in hz)
  have h3 := TB.ne0 (P.nm hc)
  unfold tg
  generalize lsum v f (lo B c) = a at *
  generalize usum v g (up B c) = b at *
  generalize v c = d at *
  simp only [Rat.inv_mul_rev, Rat.inv_inv]
  have e1 : a * a⁻¹ = 1 := Rat.mul_inv_cancel _ h1
  have e2 : b * b⁻¹ = 1 := Rat.mul_inv_cancel _ h2
  grind
end
end TV
end
-- Q8
section
set_option Elab.async false
set_option linter.all false
set_option maxRecDepth 100000
set_option maxHeartbeats 2000000
namespace TV
open PySem L2
open TB (lk pt)
/-! Q8: values compared and shown; sizes. -/
section
open TB (sz sz_mul sz_inv fr Sh ShAll Shows)
variable {B : Bd} {L : Str → Str → Prop} {v : Str → Rat} {f g : Rat} {c : Str}
theorem toD_lab : toD (labV B v) = .tuple (B.map fun p => fr (v p.1)) := by
  unfold labV
  rw [toD, toDs_eq, List.map_map]
  rfl
theorem pl_fq (n : Nat) (q : Rat) : pl (n + 1) (fq q) = true := rfl
theorem pl_lab (n : Nat) : pl (n + 2) (labV B v) = true := by
  unfold labV
  rw [pl, plAll_eq, List.all_eq_true]
  intro x hx
  obtain ⟨p, _, rfl⟩ := List.mem_map.mp hx
  exact pl_fq n _
theorem eqvAll_fr : ∀ l : List Rat, PyData.eqvAll (l.map fr) (l.map fr) = true
  | [] => rfl
  | q :: l => by simp only [List.map_cons, PyData.eqvAll, TB.eqv_fr_self, eqvAll_fr l, Bool.and_self]
theorem veq_lab : veq (labV B v) (labV B v) = true := by
  unfold veq
  rw [toD_lab, PyData.eqv]
  have := eqvAll_fr (B.map fun p => v p.1)
  rwa [List.map_map] at this
theorem veq_fq (q : Rat) : veq (fq q) (fq q) = true := TB.eqv_fr_self q
theorem ne_lab (O : So) : neV O (labV B v) (labV B v) = some (.bool false) := by
  unfold neV
  rw [show unref O (labV B v) = labV B v from rfl, if_pos ⟨pl_lab 58, pl_lab 58⟩, veq_lab]
  rfl
theorem eq_lab (O : So) : eqV O (labV B v) (labV B v) = some (.bool true) := by
  unfold eqV
  rw [show unref O (labV B v) = labV B v from rfl, if_pos ⟨pl_lab 58, pl_lab 58⟩, veq_lab]
theorem ne_fq (O : So) (q : Rat) : neV O (fq q) (fq q) = some (.bool false) := by
  unfold neV
  rw [show unref O (fq q) = fq q from rfl, if_pos ⟨pl_fq 59 q, pl_fq 59 q⟩, veq_fq]
  rfl
/-! what is shown -/
theorem lg {i : Int} {n : Nat} (h : i.natAbs < 2 ^ n) (hn : 0 < n) : i.natAbs.log2 < n := by
  by_cases h0 : i.natAbs = 0
  · rw [h0]; simpa using hn
  · exact (Nat.log2_lt h0).mpr h
/-! sizes -/
theorem lo_len (h : BOk B L) (hc : c ∈ nms B) : (lo B c).length ≤ B.length := by
  obtain ⟨p, hp, rfl⟩ := mem_nms hc
  rw [lo_of h.nd hp]
  have := nd_sub_len (pw_nodup (h.lasc p hp)) (h.low p hp)
  rwa [show (nms B).length = B.length from List.length_map ..] at this
theorem TSz.of {n k : Nat} (h : BOk B L) (P : Pos B v f g) (hc : c ∈ nms B) (hv : ∀ q ∈ B, sz n (v q.1)) (hf : sz n f) (hg : sz n g) (hk : B.length ≤ k) (h1 : 1 ≤ k) (hz : 2 * ((n + 1) * (k + 1) + 1) + n ≤ 9000) : TSz B v f g c n ((n + 1) * k + 1) ((n + 1) * k + 1) n := by
  have hvn : ∀ z ∈ nms B, sz n (v z) := fun z hz => by obtain ⟨q, hq, rfl⟩ := mem_nms hz; exact hv q hq
  have e1 : (n + 1) * (k + 1) = (n + 1) * k + (n + 1) := Nat.mul_succ _ _
  have e2 : (n + 1) * 1 ≤ (n + 1) * k := Nat.mul_le_mul_left _ h1
  have l1 : (n + 1) * max (lo B c).length 1 ≤ (n + 1) * k := Nat.mul_le_mul_left _ (by have := lo_len h hc; omega)
  have l2 : (n + 1) * max (up B c).length 1 ≤ (n + 1) * k := Nat.mul_le_mul_left _ (by have := up_len (B := B) c; omega)
  have l3 : (n + 1) * (lo B c).length ≤ (n + 1) * k := Nat.mul_le_mul_left _ (by have := lo_len h hc; omega)
  have l4 : (n + 1) * (up B c).length ≤ (n + 1) * k := Nat.mul_le_mul_left _ (by have := up_len (B := B) c; omega)
  refine ⟨hv, hf, hg, by omega, by omega, ?_, ?_, hvn c hc, by omega⟩
  · unfold lsum
    split
    · exact hf.mono (by omega)
    · refine (sum_sz (n := n) fun q hq => ?_).mono (by rw [List.length_map]; omega)
      obtain ⟨z, hz, rfl⟩ := List.mem_map.mp hq
      exact hvn z (low_in h hz)
  · unfold usum
    split
    · exact (sz_inv P.ce hg).mono (by omega)
    · refine (sum_sz (n := n) fun q hq => ?_).mono (by rw [List.length_map]; omega)
      obtain ⟨z, hz, rfl⟩ := List.mem_map.mp hq
      exact sz_inv (P.nm (up_in hz)) (hvn z (up_in hz))
end
end TV
end
-- Q9
section
set_option Elab.async false
set_option linter.all false
set_option maxRecDepth 100000
set_option maxHeartbeats 2000000
set_option exponentiation.threshold 500000
namespace TV
open PySem L2
open TB (lk pt)
/-! Q9: what the law draws. -/
section
open TB (sz)
theorem mul_sm (O : So) {a b : Int} (ha : a.natAbs < 2 ^ 1000) (hb : b.natAbs < 2 ^ 1000) : mulV O (.int a) (.int b) = some (.int (a * b)) := mul_sz O ha hb (by decide) (by decide)
theorem small {a : Int} {k : Nat} (h : a.natAbs ≤ k) (hk : k < 2 ^ 1000) : a.natAbs < 2 ^ 1000 := Nat.lt_of_le_of_lt h hk
theorem lcL_inv {α : Type} {g : Tg} {e : Ex} {Γ : Ga} {h : α → Va} (P : Nat → List Va → So → Prop) : ∀ (xs : List α) (k : Nat) (acc : List Va) (O : So), P k acc O → (∀ i x acc O, xs[i]? = some x → P (k + i) acc O → ∃ Γ1 w O1, g (h x) Γ = some Γ1 ∧ e Γ1 O = some (w, O1) ∧ P (k + i + 1) (acc ++ [w]) O1) → ∃ r O', lcL g tYs e Γ (xs.map h) acc O = some (r, O') ∧ P (k + xs.length) r O'
  | [], k, acc, O, p, _ => ⟨acc, O, rfl, p⟩
  | x :: xs, k, acc, O, p, st => by
    obtain ⟨Γ1, w, O1, h1, h2, p2⟩ := st 0 x acc O rfl p
    obtain ⟨r, O', h3, p3⟩ := lcL_inv P xs (k + 1) (acc ++ [w]) O1 p2 fun i y acc O e q => by
      have := st (i + 1) y acc O (by simpa using e) (by rw [show k + (i + 1) = k + 1 + i by omega]; exact q)
      rwa [show k + (i + 1) + 1 = k + 1 + i + 1 by omega] at this
    refine ⟨r, O', ?_, by rw [List.length_cons, show k + (xs.length + 1) = k + 1 + xs.length by omega]; exact p3⟩
    rw [List.map_cons, lcL, h1]
    simp only [tYs, h2]
    exact h3
end
end TV
end
-- Q10
section
set_option Elab.async false
set_option linter.all false
set_option maxRecDepth 100000
set_option maxHeartbeats 2000000
set_option exponentiation.threshold 500000
namespace TV
open PySem L2
open TB (lk pt)
/-! Q10: names. -/
section
theorem letters_eq : letters = (List.range 26).map (97 + ·) := by decide +kernel
theorem letter_in {k : Nat} (h : k < 26) : 97 + k ∈ letters := by rw [letters_eq]; exact List.mem_map.mpr ⟨k, List.mem_range.mpr h, rfl⟩
theorem letters_signs : ∀ c ∈ letters, c ∈ signs := fun c h => List.mem_append.mpr (Or.inl h)
theorem ix_letter (O : So) {k : Int} (h0 : 0 ≤ k) (h1 : k < 26) : ixV O (.str "abcdefghijklmnopqrstuvwxyz") (.int k) = some (.str ⟨#[97 + k.toNat]⟩) := by
  have e0 : ("abcdefghijklmnopqrstuvwxyz" : Str).cps.toList = letters := rfl
  have e1 : ("abcdefghijklmnopqrstuvwxyz" : Str).length ≤ sizeLine := by decide +kernel
  have e2 : letters.length = 26 := by decide +kernel
  have e3 : atI letters k = some (97 + k.toNat) := by
    have hk : k.toNat < 26 := by omega
    unfold atI ixN
    rw [e2, if_pos h0, if_pos (by omega)]
    show letters[k.toNat]? = _
    rw [letters_eq, List.getElem?_map, List.getElem?_range hk]
    rfl
  simp only [ixV, asD, asQ, e1, if_true, e0, e3, Option.map_some]
def sufL : List (List Nat) := [[], [48], [120, 55], [122, 122, 57, 57, 122, 122, 57]]
theorem step_inj {a t i j : Int} (ht : t = 1 ∨ t = 3 ∨ t = 5 ∨ t = 7 ∨ t = 9 ∨ t = 11) (hi : 0 ≤ i ∧ i < 20) (hj : 0 ≤ j ∧ j < 20) (h : (a + t * i) % 26 = (a + t * j) % 26) : i = j := by
  rcases ht with rfl | rfl | rfl | rfl | rfl | rfl <;> omega
def nmAt (a t : Int) (j : Nat) (x : Str) : Prop := ∃ suf, x.cps.toList = (97 + ((a + t * j) % 26).toNat) :: suf ∧ suf.length ≤ 7 ∧ (∀ d ∈ suf, d ∈ signs) ∧ suf ∈ sufL
theorem nmAt.cell {a t : Int} {j : Nat} {x : Str} (h : nmAt a t j x) : cellOk x := by
  obtain ⟨suf, e, hl, hs, _⟩ := h
  have hk : ((a + t * j) % 26).toNat < 26 := by omega
  refine ⟨_, suf, e, hl, letter_in hk, fun d hd => ?_⟩
  rcases List.mem_cons.mp hd with rfl | hd
  · exact letters_signs _ (letter_in hk)
  · exact hs d hd
end
end TV
end
-- Q11
section
set_option Elab.async false
set_option linter.all false
set_option maxRecDepth 100000
set_option maxHeartbeats 2000000
namespace TV
open PySem L2
open TB (lk pt)
/-! Q11: the board that the law draws: its covers by number. -/
section
def nV (n : Nat) : Va := .int (n : Int)
def ilV (l : List Nat) : Va := .lst (l.map nV)
structure DagOk (lw un : List (List Nat)) : Prop where
  len : lw.length = un.length
  sub : ∀ (j : Nat) (l u : List Nat), lw[j]? = some l → un[j]? = some u → ∀ a ∈ l, a ∈ u
  lt : ∀ (j : Nat) (u : List Nat), un[j]? = some u → ∀ a ∈ u, a < j
  tr : ∀ (j : Nat) (u : List Nat), un[j]? = some u → ∀ a ∈ u, ∀ w, un[a]? = some w → ∀ b ∈ w, b ∈ u
  red : ∀ (j : Nat) (l : List Nat), lw[j]? = some l → ∀ a ∈ l, ∀ b ∈ l, ∀ w, un[b]? = some w → a ∉ w
  nd : ∀ (j : Nat) (l : List Nat), lw[j]? = some l → l.Nodup
theorem DagOk.nil : DagOk [] [] := ⟨rfl, by simp, by simp, by simp, by simp, by simp⟩
theorem snoc_get {α : Type} {l : List α} {x y : α} {j : Nat} (h : (l ++ [x])[j]? = some y) : (j < l.length ∧ l[j]? = some y) ∨ (j = l.length ∧ x = y) := by
  by_cases hj : j < l.length
  · rw [List.getElem?_append_left hj] at h; exact Or.inl ⟨hj, h⟩
  · have := (List.getElem?_eq_some_iff.mp h).1
    simp at this
    have e : j = l.length := by omega
    subst e
    simp at h
    exact Or.inr ⟨rfl, h⟩
theorem DagOk.snoc {lw un : List (List Nat)} {ch hid : List Nat} (D : DagOk lw un) (nd : ch.Nodup) (hc : ∀ a ∈ ch, a < un.length) (hh : ∀ a, a ∈ hid ↔ ∃ o ∈ ch, ∃ w, un[o]? = some w ∧ a ∈ w) :
    DagOk (lw ++ [ch.filter fun a => decide (a ∉ hid)]) (un ++ [ch.filter (fun a => decide (a ∉ hid)) ++ (List.range un.length).filter fun a => decide (a ∈ hid)]) := by
  have hl := D.len
  have hidlt : ∀ a ∈ hid, a < un.length := fun a ha => by
    obtain ⟨o, ho, w, hw, haw⟩ := (hh a).mp ha
    have := D.lt o w hw a haw
    have := hc o ho
    omega
  have mem : ∀ a, a ∈ (ch.filter (fun a => decide (a ∉ hid)) ++ (List.range un.length).filter fun a => decide (a ∈ hid)) ↔ a ∈ ch ∨ a ∈ hid := fun a => by
    simp only [List.mem_append, List.mem_filter, List.mem_range, decide_eq_true_eq]
    constructor
    · rintro (h | h)
      · exact Or.inl h.1
      · exact Or.inr h.2
    · rintro (h | h)
      · by_cases hb : a ∈ hid
        · exact Or.inr ⟨hidlt a hb, hb⟩
        · exact Or.inl ⟨h, hb⟩
      · exact Or.inr ⟨hidlt a h, h⟩
  have old : ∀ (j : Nat) (w : List Nat), j < un.length → (un ++ [ch.filter (fun a => decide (a ∉ hid)) ++ (List.range un.length).filter fun a => decide (a ∈ hid)])[j]? = some w → un[j]? = some w := fun j w hj h => by rwa [List.getElem?_append_left hj] at h
  refine ⟨by simp [hl], fun j l u h1 h2 a ha => ?_, fun j u h2 a ha => ?_, fun j u h2 a ha w hw b hb => ?_, fun j l h1 a ha b hb w hw => ?_, fun j l h1 => ?_⟩
  · rcases snoc_get h1 with ⟨g1, g2⟩ | ⟨g1, g2⟩
    · exact D.sub j l u g2 (old j u (by omega) h2) a ha
    · subst g2
      rcases snoc_get h2 with ⟨k1, _⟩ | ⟨_, k2⟩
      · omega
      · subst k2
        exact List.mem_append.mpr (Or.inl ha)
  · rcases snoc_get h2 with ⟨g1, g2⟩ | ⟨g1, g2⟩
    · exact D.lt j u g2 a ha
    · subst g2
      rcases (mem a).mp ha with h | h
      · have := hc a h; omega
      · have := hidlt a h; omega
  · rcases snoc_get h2 with ⟨g1, g2⟩ | ⟨g1, g2⟩
    · have := D.lt j u g2 a ha
      exact D.tr j u g2 a ha w (old a w (by omega) hw) b hb
    · subst g2
      rw [mem] at ha ⊢
      right
      rw [hh]
      rcases ha with h | h
      · have := hc a h
        exact ⟨a, h, w, old a w this hw, hb⟩
      · have hlt := hidlt a h
        obtain ⟨o, ho, x, hx, hax⟩ := (hh a).mp h
        exact ⟨o, ho, x, hx, D.tr o x hx a hax w (old a w hlt hw) b hb⟩
  · rcases snoc_get h1 with ⟨g1, g2⟩ | ⟨g1, g2⟩
    · have hb1 := D.sub j l _ g2 (List.getElem?_eq_getElem (by omega)) b hb
      have hb2 := D.lt j _ (List.getElem?_eq_getElem (by omega)) b hb1
      exact D.red j l g2 a ha b hb w (old b w (by omega) hw)
    · subst g2
      simp only [List.mem_filter, decide_eq_true_eq] at ha hb
      have := hc b hb.1
      intro hm
      exact ha.2 ((hh a).mpr ⟨b, hb.1, w, old b w this hw, hm⟩)
  · rcases snoc_get h1 with ⟨g1, g2⟩ | ⟨g1, g2⟩
    · exact D.nd j l g2
    · subst g2
      exact List.Pairwise.filter _ nd
theorem pl_ints (n : Nat) (l : List Nat) : plAll n (l.map nV) = true := by
  induction l with
  | nil => rfl
  | cons a l ih => simp [plAll, pl, ih, nV]
theorem in_ints (O : So) (a : Nat) (l : List Nat) : inB O (nV a) (ilV l) = some (decide (a ∈ l)) := by
  have h1 : pl 60 (nV a) = true := rfl
  have h2 := pl_ints 60 l
  have h3 : (l.map nV).any (fun w => veq w (nV a)) = decide (a ∈ l) := by
    induction l with
    | nil => rfl
    | cons b l ih =>
      rw [List.map_cons, List.any_cons, ih (pl_ints 60 l)]
      have : veq (nV b) (nV a) = decide ((b : Int) = (a : Int)) := eqv_i _ _
      rw [this]
      by_cases e : b = a
      · subst e; simp
      · have e' : ¬ ((b : Int) = (a : Int)) := by omega
        have e'' : ¬ a = b := fun z => e z.symm
        simp [e', e'']
  have e1 : asD O (ilV l) = none := rfl
  have e2 : asQ O (ilV l) = some (l.map nV) := rfl
  simp only [inB, e1, e2, h1, h2, and_self, if_true, h3]
theorem listsIn_il (O : So) : ∀ ls : List (List Nat), listsIn O (ls.map ilV) = some (ls.map fun l => l.map nV)
  | [] => rfl
  | l :: ls => by simp only [List.map_cons, listsIn, listsIn_il O ls]; rfl
theorem sum2_il (O : So) (ls : List (List Nat)) (h : ls.flatten.length ≤ 1000) : sum2V O [.lst (ls.map ilV), .lst []] = some (ilV ls.flatten) := by
  cases ls with
  | nil => rfl
  | cons l ls =>
    have h1 := listsIn_il O (l :: ls)
    have h2 : ((l :: ls).map fun l => l.map nV).flatten = (l :: ls).flatten.map nV := by rw [List.map_flatten]
    have h3 : ((l :: ls).flatten.map nV).length ≤ sizeLine := by
      have : 1000 ≤ sizeLine := by decide
      rw [List.length_map]; omega
    show (match listsIn O ((l :: ls).map ilV) with
      | some yss => if ([] ++ yss.flatten).length ≤ sizeLine then some (Va.lst ([] ++ yss.flatten)) else none
      | none => none) = _
    rw [h1]
    simp only [List.nil_append, h2, h3, if_true]
    rfl
/-! the loops -/
theorem rng_ok (n : Nat) (h : n ≤ 1000) : range1F [nV n] = some ((List.range n).map nV) := by
  have hc : -(2 ^ 62) ≤ (n : Int) ∧ (n : Int) < 2 ^ 62 := by omega
  unfold nV
  simp only [range1F]
  rw [if_pos hc, Int.toNat_natCast]
  unfold rng
  congr 1
  apply List.map_congr_left
  intro k _
  rw [Int.zero_add]
end
end TV
end
-- Q13
section
set_option Elab.async false
set_option linter.all false
set_option maxRecDepth 100000
set_option maxHeartbeats 2000000
namespace TV
open PySem L2
open TB (lk pt)
/-! Q13: the drawn board is a board. -/
section
def nmF (nm : List Str) (i : Nat) : Str := nm.getD i ⟨#[]⟩
def lF (lw : List (List Nat)) (i : Nat) : List Nat := lw.getD i []
theorem nmF_get {nm : List Str} {i : Nat} (h : i < nm.length) : nm[i]? = some (nmF nm i) := by simp [nmF, h]
theorem lF_get {lw : List (List Nat)} {i : Nat} (h : i < lw.length) : lw[i]? = some (lF lw i) := by simp [lF, h]
theorem get_inj {nm : List Str} (nd : nm.Nodup) {i j : Nat} {x : Str} (hi : nm[i]? = some x) (hj : nm[j]? = some x) : i = j := by
  have l1 := List.getElem?_eq_some_iff.mp hi
  have l2 := List.getElem?_eq_some_iff.mp hj
  rcases Nat.lt_trichotomy i j with h | h | h
  · exact absurd (by rw [l1.2, l2.2]) (List.pairwise_iff_getElem.mp nd i j l1.1 l2.1 h)
  · exact h
  · exact absurd (by rw [l1.2, l2.2]) (List.pairwise_iff_getElem.mp nd j i l2.1 l1.1 h)
/-- the items, by number -/
def itB (nm : List Str) (lw : List (List Nat)) (i : Nat) : Str × List Str := (nmF nm i, sortS ((lF lw i).map (nmF nm)))
def B0 (nm : List Str) (lw : List (List Nat)) (k : Nat) : Bd := (List.range k).map (itB nm lw)
def LB (nm : List Str) (un : List (List Nat)) (x y : Str) : Prop := ∃ (i j : Nat) (u : List Nat), nm[i]? = some x ∧ nm[j]? = some y ∧ un[i]? = some u ∧ j ∈ u
theorem nms_B0 {nm : List Str} {lw : List (List Nat)} {k : Nat} (hk : nm.length = k) : nms (B0 nm lw k) = nm := by
  unfold nms B0
  rw [List.map_map]
  apply List.ext_getElem?
  intro i
  rw [List.getElem?_map]
  by_cases h : i < k
  · rw [List.getElem?_range h, nmF_get (by omega)]
    rfl
  · rw [List.getElem?_eq_none (by simpa using h), List.getElem?_eq_none (by omega)]
    rfl
theorem board_BOk {nm : List Str} {lw un : List (List Nat)} {k : Nat} (hk : nm.length = k) (hk36 : k ≤ 36) (hc : ∀ x ∈ nm, cellOk x) (nd : nm.Nodup) (hl : lw.length = k) (D : DagOk lw un) : BOk (sortB' (B0 nm lw k)) (LB nm un) := by
  have hul : un.length = k := by rw [← D.len]; exact hl
  have mem : ∀ p, p ∈ sortB' (B0 nm lw k) ↔ ∃ i, i < k ∧ itB nm lw i = p := fun p => by
    rw [(sortB_perm _).mem_iff]
    unfold B0
    simp [List.mem_map, List.mem_range]
  have nmsP : ∀ x, x ∈ nms (sortB' (B0 nm lw k)) ↔ x ∈ nm := fun x => by
    have := ((sortB_perm (B0 nm lw k)).map (fun p : Str × List Str => p.1)).mem_iff (a := x)
    rw [show (B0 nm lw k).map (fun p => p.1) = nm from nms_B0 hk] at this
    exact this
  have asc := sortB_asc (B := B0 nm lw k) (by rw [nms_B0 hk]; exact nd)
  have lowm : ∀ (i : Nat) (d : Str), i < k → d ∈ (itB nm lw i).2 → ∃ o, o ∈ lF lw i ∧ o < i ∧ nm[o]? = some d := fun i d hi hd => by
    have : d ∈ (lF lw i).map (nmF nm) := (sortS_perm _).mem_iff.mp hd
    obtain ⟨o, ho, rfl⟩ := List.mem_map.mp this
    have h1 := D.sub i _ (un.getD i []) (lF_get (by omega)) (by simp [show i < un.length by omega]) o ho
    have h2 := D.lt i (un.getD i []) (by simp [show i < un.length by omega]) o h1
    exact ⟨o, ho, h2, nmF_get (by omega)⟩
  have low2 : ∀ (i o : Nat), i < k → o ∈ lF lw i → ∃ u, un[i]? = some u ∧ o ∈ u := fun i o hi ho =>
    ⟨un.getD i [], by simp [show i < un.length by omega], D.sub i _ _ (lF_get (by omega)) (by simp [show i < un.length by omega]) o ho⟩
  refine ⟨?_, fun p hp => ?_, asc, fun p hp d hd => ?_, fun p hp => ?_, fun p hp d hd => ?_, fun c d e hL he => ?_, fun p hp hL => ?_, fun p hp d hd e he hL => ?_⟩
  · rw [(sortB_perm _).length_eq]
    simp [B0, hk36]
  · obtain ⟨i, hi, rfl⟩ := (mem p).mp hp
    exact hc _ (List.mem_of_getElem? (nmF_get (nm := nm) (i := i) (by omega)))
  · obtain ⟨i, hi, rfl⟩ := (mem p).mp hp
    obtain ⟨o, _, _, h⟩ := lowm i d hi hd
    exact (nmsP d).mpr (List.mem_of_getElem? h)
  · obtain ⟨i, hi, rfl⟩ := (mem p).mp hp
    refine sortS_asc ?_
    unfold List.Nodup
    rw [List.pairwise_map]
    refine (D.nd i _ (lF_get (by omega))).imp_of_mem fun {a b} ha hb hab e => hab ?_
    obtain ⟨u, hu, hau⟩ := low2 i a hi ha
    obtain ⟨u', hu', hbu⟩ := low2 i b hi hb
    have h1 := D.lt i u hu a hau
    have h2 := D.lt i u' hu' b hbu
    exact get_inj nd (nmF_get (by omega)) (by rw [e]; exact nmF_get (by omega))
  · obtain ⟨i, hi, rfl⟩ := (mem p).mp hp
    obtain ⟨o, ho, _, h⟩ := lowm i d hi hd
    obtain ⟨u, hu, hou⟩ := low2 i o hi ho
    exact ⟨i, o, u, nmF_get (by omega), h, hu, hou⟩
  · obtain ⟨i, j, u, hi, hj, hu, hju⟩ := hL
    unfold lo at he
    cases hf : (sortB' (B0 nm lw k)).find? fun p => decide (p.1 = d) with
    | none => rw [hf] at he; simp at he
    | some p =>
      rw [hf] at he
      have hp := List.mem_of_find?_eq_some hf
      have e1 : p.1 = d := by simpa using List.find?_some hf
      obtain ⟨j', hj', rfl⟩ := (mem p).mp hp
      have e2 : j' = j := get_inj nd (nmF_get (by omega)) (by rw [show nmF nm j' = d from e1]; exact hj)
      subst e2
      obtain ⟨o, ho, _, h⟩ := lowm j' e hj' he
      obtain ⟨w, hw, how⟩ := low2 j' o hj' ho
      exact ⟨i, o, u, hi, h, hu, D.tr i u hu j' hju w hw o how⟩
  · obtain ⟨i, hi, rfl⟩ := (mem p).mp hp
    obtain ⟨a, b, u, ha, hb, hu, hbu⟩ := hL
    have e := get_inj nd ha hb
    have := D.lt a u hu b hbu
    omega
  · obtain ⟨i, hi, rfl⟩ := (mem p).mp hp
    obtain ⟨x, hx, _, hx2⟩ := lowm i d hi hd
    obtain ⟨y, hy, _, hy2⟩ := lowm i e hi he
    obtain ⟨a, b, u, ha, hb, hu, hbu⟩ := hL
    have e1 := get_inj nd ha hy2
    have e2 := get_inj nd hb hx2
    subst e1 e2
    exact D.red i _ (lF_get (by omega)) b hx a hy u hu hbu
theorem ix_nm {O : So} {nm : List Str} {i : Nat} (h : i < nm.length) : ixV O (.lst (nm.map Va.str)) (nV i) = some (.str (nmF nm i)) := by
  have e : atI (nm.map Va.str) (i : Int) = some (.str (nmF nm i)) := atI_nat (by rw [List.getElem?_map, nmF_get h]; rfl)
  simp only [ixV, asD, nV, asQ, e]
theorem ix_lw {O : So} {lw : List (List Nat)} {i : Nat} (h : i < lw.length) : ixV O (.lst (lw.map ilV)) (nV i) = some (ilV (lF lw i)) := by
  have e : atI (lw.map ilV) (i : Int) = some (ilV (lF lw i)) := atI_nat (by rw [List.getElem?_map, lF_get h]; rfl)
  simp only [ixV, asD, nV, asQ, e]
theorem below_bd (n : Nat) (B : Bd) : below n (bdV B) = true := by
  unfold bdV
  rw [below]
  induction B with
  | nil => rfl
  | cons a l ih => simp only [List.map_cons, belowAll, ih, Bool.and_true, itV, tupS, below, below_strs]
end
end TV
end
-- Q14
-- U1
section
set_option Elab.async false
set_option linter.all false
set_option maxRecDepth 100000
set_option maxHeartbeats 2000000
set_option exponentiation.threshold 500000
namespace TV
open PySem L2
open TB (lk pt)
/-! U1: toggles with sizes cell by cell. -/
section
open TB (sz sz_div sz_add sz_mul sz_inv num_pos den_pos red_num red_den add_frac mul_frac gcd_fr num_inv_pos den_inv_pos)
variable {B : Bd} {L : Str → Str → Prop}
/-- each step of the sum has its size -/
def SumOk (qs : List Rat) : Prop := ∀ i q, qs[i]? = some q → ∃ m n, sz m (qs.take i).sum ∧ sz n q ∧ m + n ≤ 9000
/-- the sizes at a toggle -/
structure TZ (B : Bd) (v : Str → Rat) (f g : Rat) (c : Str) (a b d : Nat) : Prop where
  ls : SumOk (upl v f (lo B c))
  us : SumOk ((upl v g (up B c)).map fun q => q⁻¹)
  sa : sz a (lsum v f (lo B c))
  sb : sz b (usum v g (up B c))
  sd : sz d (v c)
  tot : a + b + d ≤ 9000
/-- a sequence with sizes; lim: no result is too large -/
inductive SeqZ (B : Bd) (f g : Rat) (lim : Bool) : (Str → Rat) → List Str → Prop
  | nil {v : Str → Rat} : SeqZ B f g lim v []
  | cons {v : Str → Rat} {c : Str} {cs : List Str} {a b d : Nat} (hc : c ∈ nms B) (S : TZ B v f g c a b d) (hl : lim = true → sz 6643 (tg B v f g c)) (r : SeqZ B f g lim (set1 v c (tg B v f g c)) cs) : SeqZ B f g lim v (c :: cs)
theorem SeqZ.pos {f g : Rat} {lim : Bool} (h : BOk B L) : ∀ {cs : List Str} {v : Str → Rat}, Pos B v f g → SeqZ B f g lim v cs → Pos B (tgs B f g v cs) f g
  | [], v, P, _ => P
  | c :: cs, v, P, hs => by
    cases hs with
    | cons hc S hl r => exact SeqZ.pos (v := set1 v c (tg B v f g c)) (cs := cs) h (P.set (tg_pos h P hc) c) r
/-! the limit -/
end
end TV
end
-- U2
-- U3
section
set_option Elab.async false
set_option linter.all false
set_option maxRecDepth 100000
set_option maxHeartbeats 2000000
namespace TV
open PySem L2
open TB (lk pt)
/-! U3: what lies below; linear extensions. -/
section
variable {B : Bd} {L : Str → Str → Prop}
inductive Rc (B : Bd) : Str → Str → Prop
  | one {c d : Str} (h : d ∈ lo B c) : Rc B c d
  | snoc {c d e : Str} (h : Rc B c d) (k : e ∈ lo B d) : Rc B c e
theorem Rc.trans {c d e : Str} (h : Rc B c d) (k : Rc B d e) : Rc B c e := by
  induction k with
  | one k => exact .snoc h k
  | snoc _ k ih => exact .snoc ih k
theorem Rc.first {c e : Str} (h : Rc B c e) : ∃ d ∈ lo B c, d = e ∨ Rc B d e := by
  induction h with
  | one h => exact ⟨_, h, Or.inl rfl⟩
  | snoc _ k ih =>
    obtain ⟨d, hd, e | e⟩ := ih
    · subst e; exact ⟨d, hd, Or.inr (.one k)⟩
    · exact ⟨d, hd, Or.inr (.snoc e k)⟩
theorem lo_mem {c d : Str} (h : d ∈ lo B c) : c ∈ nms B := by
  unfold lo at h
  cases hf : B.find? fun p => decide (p.1 = c) with
  | none => rw [hf] at h; cases h
  | some p =>
    have h1 := List.find?_some hf
    have h2 := List.mem_of_find?_eq_some hf
    exact List.mem_map.mpr ⟨p, h2, by simpa using h1⟩
theorem Rc.toL (h : BOk B L) {c d : Str} (r : Rc B c d) : L c d := by
  induction r with
  | one k =>
    obtain ⟨p, hp, rfl⟩ := mem_nms (lo_mem k)
    rw [lo_of h.nd hp] at k
    exact h.below p hp _ k
  | snoc _ k ih => exact h.trans _ _ _ ih k
theorem Rc.src {c d : Str} (r : Rc B c d) : c ∈ nms B := by
  obtain ⟨e, he, _⟩ := r.first
  exact lo_mem he
theorem Rc.irr (h : BOk B L) {c : Str} : ¬ Rc B c c := fun r => by
  obtain ⟨p, hp, rfl⟩ := mem_nms r.src
  exact h.irr p hp (r.toL h)
/-- a board with what truly lies below -/
theorem BOk.toRc (h : BOk B L) : BOk B (Rc B) := { h with
  below := fun p hp d hd => .one (by rw [lo_of h.nd hp]; exact hd)
  trans := fun _ _ _ r k => .snoc r k
  irr := fun _ _ => Rc.irr h
  red := fun p hp d hd e he r => h.red p hp d hd e he (r.toL h) }
theorem filter_lt {α : Type} {p q : α → Bool} : ∀ {l : List α}, (∀ x ∈ l, p x = true → q x = true) → (∃ x ∈ l, q x = true ∧ p x = false) → (l.filter p).length < (l.filter q).length
  | [], _, h => by obtain ⟨x, hx, _⟩ := h; cases hx
  | a :: l, hi, hx => by
    have hle : ∀ (l : List α), (∀ x ∈ l, p x = true → q x = true) → (l.filter p).length ≤ (l.filter q).length := by
      intro l
      induction l with
      | nil => intro _; simp
      | cons b l ih =>
        intro h
        have := ih fun x hx => h x (List.mem_cons_of_mem _ hx)
        cases hb : p b with
        | false => rw [List.filter_cons_of_neg (by simp [hb])]; cases hq : q b <;> simp [hq] <;> omega
        | true => rw [List.filter_cons_of_pos hb, List.filter_cons_of_pos (h b List.mem_cons_self hb)]; simpa using this
    obtain ⟨x, hx, hq, hp⟩ := hx
    have h0 := hle l fun x hx => hi x (List.mem_cons_of_mem _ hx)
    rcases List.mem_cons.mp hx with rfl | hm
    · rw [List.filter_cons_of_neg (by simp [hp]), List.filter_cons_of_pos hq]; simp; omega
    · have ih := filter_lt (l := l) (fun x hx => hi x (List.mem_cons_of_mem _ hx)) ⟨x, hm, hq, hp⟩
      cases ha : p a with
      | false => rw [List.filter_cons_of_neg (by simp [ha])]; cases hqa : q a <;> simp [hqa] <;> omega
      | true => rw [List.filter_cons_of_pos ha, List.filter_cons_of_pos (hi a List.mem_cons_self ha)]; simpa using ih
open Classical in
theorem min_undone (h : BOk B L) (U : Str → Prop) (hU : ∃ c ∈ nms B, U c) : ∃ c ∈ nms B, U c ∧ ∀ d ∈ lo B c, ¬ U d := by
  have key : ∀ (n : Nat) (c : Str), ((nms B).filter fun d => decide (Rc B c d)).length ≤ n → c ∈ nms B → U c → ∃ c ∈ nms B, U c ∧ ∀ d ∈ lo B c, ¬ U d := by
    intro n
    induction n with
    | zero =>
      intro c hn hc hu
      refine ⟨c, hc, hu, fun d hd _ => ?_⟩
      have : d ∈ (nms B).filter fun d => decide (Rc B c d) := List.mem_filter.mpr ⟨low_in h hd, by simpa using Rc.one hd⟩
      have := List.length_pos_of_mem this
      omega
    | succ n ih =>
      intro c hn hc hu
      by_cases hd : ∃ d ∈ lo B c, U d
      · obtain ⟨d, hd, hud⟩ := hd
        refine ih d ?_ (low_in h hd) hud
        have := filter_lt (l := nms B) (p := fun e => decide (Rc B d e)) (q := fun e => decide (Rc B c e)) (fun x _ hx => by simpa using (Rc.one hd).trans (by simpa using hx)) ⟨d, low_in h hd, by simpa using Rc.one hd, by simpa using Rc.irr h⟩
        omega
      · exact ⟨c, hc, hu, fun d hd' hud => hd ⟨d, hd', hud⟩⟩
  obtain ⟨c, hc, hu⟩ := hU
  exact key _ c (Nat.le_refl _) hc hu
/-! orders in which each cell comes after the cells below it -/
def alw (B : Bd) (o : List Str) : Bd := B.filter fun q => decide (q.1 ∉ o) && q.2.all fun d => decide (d ∈ o)
def extG (B : Bd) : Nat → List Str → List Str
  | 0, o => o
  | n + 1, o => match alw B o with
    | q :: _ => extG B n (o ++ [q.1])
    | [] => o
def ext (B : Bd) : List Str := extG B B.length []
structure Part (B : Bd) (o : List Str) : Prop where
  nd : o.Nodup
  sub : ∀ c ∈ o, c ∈ nms B
  low : ∀ i c, o[i]? = some c → ∀ d ∈ lo B c, d ∈ o.take i
theorem Part.next (h : BOk B L) {o : List Str} (p : Part B o) (hl : o.length < B.length) : ∃ q t, alw B o = q :: t ∧ q ∈ B ∧ q.1 ∉ o ∧ ∀ d ∈ q.2, d ∈ o := by
  have hu : ∃ c ∈ nms B, c ∉ o := by
    apply Classical.byContradiction
    intro hn
    have := nd_sub_len (l := nms B) (m := o) h.nd fun x hx => Classical.byContradiction fun hx' => hn ⟨x, hx, hx'⟩
    rw [show (nms B).length = B.length from List.length_map ..] at this
    omega
  obtain ⟨c, hc, h1, h2⟩ := min_undone h (fun c => c ∉ o) hu
  obtain ⟨q, hq, rfl⟩ := mem_nms hc
  have hm : q ∈ alw B o := by
    refine List.mem_filter.mpr ⟨hq, ?_⟩
    rw [Bool.and_eq_true, List.all_eq_true]
    refine ⟨by simpa using h1, fun d hd => ?_⟩
    have := h2 d (by rw [lo_of h.nd hq]; exact hd)
    simpa using this
  cases ha : alw B o with
  | nil => rw [ha] at hm; cases hm
  | cons r t =>
    have hr : r ∈ alw B o := by rw [ha]; exact List.mem_cons_self
    obtain ⟨h3, h4⟩ := List.mem_filter.mp hr
    rw [Bool.and_eq_true, List.all_eq_true] at h4
    exact ⟨r, t, rfl, h3, by simpa using h4.1, fun d hd => by simpa using h4.2 d hd⟩
theorem Part.snoc (h : BOk B L) {o : List Str} (p : Part B o) {q : Str × List Str} (hq : q ∈ B) (h1 : q.1 ∉ o) (h2 : ∀ d ∈ q.2, d ∈ o) : Part B (o ++ [q.1]) where
  nd := by
    rw [List.nodup_append]
    exact ⟨p.nd, by simp, fun a ha b hb e => by simp at hb; subst hb; exact h1 (by rw [← e]; exact ha)⟩
  sub := fun c hc => by
    rcases List.mem_append.mp hc with hc | hc
    · exact p.sub c hc
    · simp at hc; subst hc; exact List.mem_map.mpr ⟨q, hq, rfl⟩
  low := fun i c hi d hd => by
    rcases snoc_get hi with ⟨hl, hi⟩ | ⟨hl, hc⟩
    · have := p.low i c hi d hd
      rw [List.take_append_of_le_length (by omega)]
      exact this
    · subst hl
      subst hc
      rw [lo_of h.nd hq] at hd
      rw [List.take_append_of_le_length (Nat.le_refl _), List.take_length]
      exact h2 d hd
end
end TV
end
-- U4
section
set_option Elab.async false
set_option linter.all false
set_option maxRecDepth 100000
set_option maxHeartbeats 2000000
namespace TV
open PySem L2
open TB (lk pt)
/-! U4: dual boards. -/
section
variable {B : Bd} {L : Str → Str → Prop}
theorem asc_ext {l m : List Str} (h : l.Pairwise sLt) (k : m.Pairwise sLt) (e : ∀ x, x ∈ l ↔ x ∈ m) : l = m :=
  List.Perm.eq_of_pairwise (le := sLt) (fun a b _ _ h1 h2 => absurd (h1.trans h2) (sLt.irr _)) h k ((List.perm_ext_iff_of_nodup (pw_nodup h) (pw_nodup k)).mpr e)
theorem sortS_id {l : List Str} (h : l.Pairwise sLt) : sortS l = l := asc_ext (sortS_asc (pw_nodup h)) h fun x => (sortS_perm l).mem_iff
theorem up_asc (h : BOk B L) (c : Str) : (up B c).Pairwise sLt := (h.asc).sublist (List.Sublist.map _ List.filter_sublist)
theorem lo_asc (h : BOk B L) (c : Str) : (lo B c).Pairwise sLt := by
  by_cases hc : c ∈ nms B
  · obtain ⟨p, hp, rfl⟩ := mem_nms hc
    rw [lo_of h.nd hp]; exact h.lasc p hp
  · have : lo B c = [] := List.eq_nil_iff_forall_not_mem.mpr fun d hd => hc (lo_mem hd)
    rw [this]; exact .nil
def dl (B : Bd) : Bd := B.map fun p => (p.1, up B p.1)
theorem nms_dl : nms (dl B) = nms B := by simp [nms, dl, List.map_map, Function.comp_def]
theorem dl_len : (dl B).length = B.length := by simp [dl]
theorem lo_dl (h : BOk B L) (c : Str) : lo (dl B) c = up B c := by
  by_cases hc : c ∈ nms B
  · obtain ⟨p, hp, rfl⟩ := mem_nms hc
    have : lo (dl B) (p.1, up B p.1).1 = (p.1, up B p.1).2 := lo_of (by rw [nms_dl]; exact h.nd) (List.mem_map.mpr ⟨p, hp, rfl⟩)
    exact this
  · have h1 : lo (dl B) c = [] := List.eq_nil_iff_forall_not_mem.mpr fun d hd => hc (by have := lo_mem hd; rwa [nms_dl] at this)
    have h2 : up B c = [] := List.eq_nil_iff_forall_not_mem.mpr fun d hd => hc (low_in h ((up_iff h).mp hd).2)
    rw [h1, h2]
theorem dl_ok (h : BOk B L) : BOk (dl B) (fun c d => Rc B d c) where
  small := by rw [dl_len]; exact h.small
  cell := fun p hp => by
    obtain ⟨q, hq, rfl⟩ := List.mem_map.mp hp
    exact h.cell q hq
  asc := by rw [nms_dl]; exact h.asc
  low := fun p hp d hd => by
    obtain ⟨q, hq, rfl⟩ := List.mem_map.mp hp
    rw [nms_dl]; exact up_in hd
  lasc := fun p hp => by
    obtain ⟨q, hq, rfl⟩ := List.mem_map.mp hp
    exact up_asc h _
  below := fun p hp d hd => by
    obtain ⟨q, hq, rfl⟩ := List.mem_map.mp hp
    exact .one ((up_iff h).mp hd).2
  trans := fun c d e r k => by
    rw [lo_dl h] at k
    exact (Rc.one ((up_iff h).mp k).2).trans r
  irr := fun p hp => Rc.irr h
  red := fun p hp d hd e he r => by
    obtain ⟨q, hq, rfl⟩ := List.mem_map.mp hp
    have h1 := ((up_iff h).mp hd).2
    have h2 := ((up_iff h).mp he).2
    obtain ⟨x, hx, e1⟩ := r.first
    obtain ⟨p', hp', rfl⟩ := mem_nms (lo_mem hx)
    rw [lo_of h.nd hp'] at hx h1
    refine h.red p' hp' q.1 h1 x hx ?_
    rcases e1 with rfl | e1
    · exact (Rc.one h2).toL h
    · exact (e1.trans (.one h2)).toL h
theorem up_dl (h : BOk B L) (c : Str) : up (dl B) c = lo B c := asc_ext (up_asc (dl_ok h) c) (lo_asc h c) fun x => by
  rw [up_iff (dl_ok h), lo_dl h, nms_dl, up_iff h]
  exact ⟨fun z => z.2.2, fun z => ⟨low_in h z, lo_mem z, z⟩⟩
/-! boards from dicts -/
theorem strKs_dB (f : Str × List Str → Va) : ∀ R : Bd, strKs (dB R f) = some (nms R)
  | [] => rfl
  | p :: R => by
    have := strKs_dB f R
    simp only [dB, nms, List.map_cons, strKs] at this ⊢
    rw [this]; rfl
theorem sorted_dB (O : So) {R : Bd} (f : Str × List Str → Va) (hl : R.length < 64) : sortedV O [.dct (dB R f)] = some (.lst ((sortS (nms R)).map Va.str)) := by
  have h1 : (nms R).length < 64 := by rw [show (nms R).length = R.length from List.length_map ..]; exact hl
  simp only [sortedV, asL, asD, strKs_dB, h1, if_true, sortS_map]
theorem board_from_ok {R : Bd} (nd : (nms R).Nodup) (hl : R.length < 64) (hz : ∀ p ∈ R, p.2.length ≤ 1000) : Pu f_board_from [.dct (dB R fun p => .lst (p.2.map Va.str))] (bdV ((sortS (nms R)).map fun c => (c, sortS (lo R c)))) := fun O => by
  unfold f_board_from b_board_from
  have hlen : ((sortS (nms R)).map Va.str).length ≤ sizeLine := by
    have : 64 ≤ sizeLine := by decide
    rw [List.length_map, (sortS_perm _).length_eq, show (nms R).length = R.length from List.length_map ..]; omega
  have hlc := lcL_map (g := gN 1) (t := tYs) (e := mTup (aCons (mVar 1) (aCons (mCB tupleV (aCons (mCB sortedV (aCons (mOp ixV (mVar 0) (mVar 1)) aNil)) aNil)) aNil))) (Γ := [some (.dct (dB R fun p => .lst (p.2.map Va.str))), none]) (O := O) (h := Va.str) (r := fun c => itV (c, sortS (lo R c))) (sortS (nms R)) [] (fun c hc => ⟨_, rfl, rfl, by
    obtain ⟨p, hp, rfl⟩ := mem_nms ((sortS_perm _).mem_iff.mp hc)
    rw [lo_of nd hp]
    exact r_tup (xs := [.str p.1, tupS (sortS p.2)]) (r_cons (by walk_at "tv go") (r_cons (r_cb (r_cons (r_cb (r_cons (r_op (by walk_at "tv go") (by walk_at "tv go") (ix_dct _ _ _ _ (lk_dB nd hp))) (by walk_at "tv go")) (sorted_strs O (hz p hp))) (by walk_at "tv go")) rfl) (by walk_at "tv go"))) (by exact sl_2)⟩)
  refine r_fn0 rfl (r_ret (r_cb (r_cons (r_lc (r_it (r_cb (by walk_at "tv go") (sorted_dB O _ hl)) rfl) hlen hlc) (by walk_at "tv go")) ?_))
  show some (Va.tup ([] ++ _)) = _
  rw [List.nil_append]
  unfold bdV
  rw [List.map_map]
  rfl
theorem dual_ok (h : BOk B L) : Pu f_dual [bdV B] (bdV (dl B)) := fun O => by
  obtain ⟨x', y', z', hf⟩ := fill (A := O) (D := .dct (dI B fun i p => .ref (O.length + i))) (E := mOp ixV (mVar 1) (mVar 4)) h (fun a b O' q j hj => r_op (by walk_at "tv go") (by walk_at "tv go") (ix_dct _ _ _ _ (lk_dI h.nd hj))) none none none
  have hd := dc_refs (x := some (bdV B)) (y := none) B [] O h.nd (by simp)
  have hk := mapK_refs (k := 2) (w := fun _ v => v) (S := up B) (fun p n l O' h' => fz_ref h') B O
  have hbf := fun O' => board_from_ok (R := dl B) (by rw [nms_dl]; exact h.nd) (by rw [dl_len]; have := h.small; omega) (fun p hp => by
    obtain ⟨q, hq, rfl⟩ := List.mem_map.mp hp
    have := up_len (B := B) q.1
    have := h.small
    show (up B q.1).length ≤ 1000
    omega) O'
  have e0 : (dB (dl B) fun p => .lst (p.2.map Va.str)) = dB B fun p => .lst ((up B p.1).map Va.str) := by simp [dB, dl, List.map_map, Function.comp_def]
  have e1 : ((sortS (nms (dl B))).map fun c => (c, sortS (lo (dl B) c))) = dl B := by
    rw [nms_dl, sortS_id h.asc]
    unfold dl nms
    rw [List.map_map]
    apply List.map_congr_left
    intro p hp
    have : lo (dl B) p.1 = up B p.1 := lo_dl h p.1
    unfold dl at this
    simp only [Function.comp, this, sortS_id (up_asc h p.1)]
  rw [e0, e1] at hbf
  unfold f_dual
  have e := r_fn (np := 1) (n := 5) (args := [bdV B]) (s1 := b_dual) (O := O) (v := bdV (dl B)) (O1 := O ++ B.map fun _ => .dead) rfl (by
    unfold b_dual
    refine r_seq (r_drop (r_call0 (by walk_at "tv go") (check_board_ok h O))) (r_seq (r_asgN (r_dc (r_it (by walk_at "tv go") its_bd) (by rw [List.length_map]; exact len36 h.small) hd)) (r_seq (r_for (r_it (by walk_at "tv go") its_bd) hf) (r_seq (r_fz (i := 1) rfl (y := .dct (dB B fun p => .lst ((up B p.1).map Va.str))) (O1 := O ++ B.map fun _ => .dead) (by
      unfold fzD fz1
      simp only [List.nil_append]
      rw [hk])) (r_ret (r_call0 (by walk_at "tv go") (hbf _)))))))
  rw [gc_app (below_bd _ _)] at e
  exact e
/-! labels of the dual -/
def vi (v : Str → Rat) : Str → Rat := fun c => (v c)⁻¹
theorem lab_dl (v : Str → Rat) : labV (dl B) v = labV B v := by simp [labV, dl, List.map_map, Function.comp_def]
theorem dual_labels_ok {v : Str → Rat} (h : BOk B L) (hv : ∀ p ∈ B, 0 < v p.1) : Pu f_dual_labels [bdV B, labV B v] (labV B (vi v)) := fun O => by
  unfold f_dual_labels b_dual_labels
  refine r_fn0 rfl (r_seq (r_drop (r_call0 (by walk_at "tv go") (check_labels_ok h hv O))) (r_ret (r_cb (r_cons (r_lc (r_it (by walk_at "tv go") (its_lab v)) (by rw [List.length_map]; exact len36 h.small) (lcL_map (h := fun p : Str × List Str => fq (v p.1)) (r := fun p => fq (vi v p.1)) B [] fun p hp => ⟨_, rfl, rfl, r_call0 (by walk_at "tv go") (reciprocal_ok (hv p hp) _)⟩)) (by walk_at "tv go")) rfl)))
theorem lsum_vi (v : Str → Rat) (g : Rat) (l : List Str) : lsum (vi v) g⁻¹ l = usum v g l := rfl
theorem usum_vi (v : Str → Rat) (f : Rat) (l : List Str) : usum (vi v) f⁻¹ l = lsum v f l := by
  unfold usum lsum vi
  simp only [Rat.inv_inv]
theorem tg_dl (h : BOk B L) (v : Str → Rat) (f g : Rat) (c : Str) : tg (dl B) (vi v) g⁻¹ f⁻¹ c = (tg B v f g c)⁻¹ := by
  unfold tg
  rw [lo_dl h, up_dl h, lsum_vi, usum_vi]
  unfold vi
  simp only [Rat.inv_mul_rev, Rat.inv_inv]
  grind
theorem vi_set (v : Str → Rat) (c : Str) (x : Rat) : vi (set1 v c x) = set1 (vi v) c x⁻¹ := by
  funext d
  unfold vi set1
  split <;> rfl
theorem Pos.dl {v : Str → Rat} {f g : Rat} (P : Pos B v f g) : Pos (dl B) (vi v) g⁻¹ f⁻¹ := ⟨fun q hq => by
  obtain ⟨p, hp, rfl⟩ := List.mem_map.mp hq
  exact Rat.inv_pos.mpr (P.lab p hp), Rat.inv_pos.mpr P.ce, Rat.inv_pos.mpr P.fl⟩
theorem upl_vi (v : Str → Rat) (g : Rat) (l : List Str) : upl (vi v) g⁻¹ l = (upl v g l).map fun q => q⁻¹ := by
  unfold upl vi
  split
  · rfl
  · rw [List.map_map]; rfl
theorem TZ.dl {v : Str → Rat} {f g : Rat} {c : Str} {a b d : Nat} (h : BOk B L) (P : Pos B v f g) (hc : c ∈ nms B) (S : TZ B v f g c a b d) : TZ (dl B) (vi v) g⁻¹ f⁻¹ c b a d where
  ls := by rw [lo_dl h, upl_vi]; exact S.us
  us := by
    rw [up_dl h, upl_vi, List.map_map, show ((fun q : Rat => q⁻¹) ∘ fun q => q⁻¹) = id by funext q; simp [Rat.inv_inv], List.map_id]
    exact S.ls
  sa := by rw [lo_dl h, lsum_vi]; exact S.sb
  sb := by rw [up_dl h, usum_vi]; exact S.sa
  sd := TB.sz_inv (P.nm hc) S.sd
  tot := by have := S.tot; omega
theorem SeqZ.dl {f g : Rat} {lim : Bool} (h : BOk B L) : ∀ {cs : List Str} {v : Str → Rat}, Pos B v f g → SeqZ B f g lim v cs → SeqZ (dl B) g⁻¹ f⁻¹ lim (vi v) cs
  | [], v, P, _ => .nil
  | c :: cs, v, P, s => by
    cases s with
    | cons hc S hl r =>
      refine .cons (by rw [nms_dl]; exact hc) (S.dl h P hc) (fun e => ?_) ?_
      · rw [tg_dl h]; exact TB.sz_inv (tg_pos h P hc) (hl e)
      · rw [tg_dl h, ← vi_set]
        exact SeqZ.dl h (P.set (tg_pos h P hc) c) r
end
end TV
end
-- U5
section
set_option Elab.async false
set_option linter.all false
set_option maxRecDepth 100000
set_option maxHeartbeats 2000000
set_option exponentiation.threshold 500000
namespace TV
open PySem L2
open TB (lk pt)
/-! U5: rectangles; a board that is none. -/
section
variable {B : Bd} {L : Str → Str → Prop}
theorem add_lst (O : So) {xs ys : List Va} (h : xs.length + ys.length ≤ sizeLine) : addV O (.lst xs) (.lst ys) = some (.lst (xs ++ ys)) := by simp [addV, asL, h]
/-! boards compared -/
end
end TV
end
-- U6
-- U7
-- U8
section
set_option Elab.async false
set_option linter.all false
set_option maxRecDepth 100000
set_option maxHeartbeats 2000000
set_option exponentiation.threshold 500000
namespace TV
open PySem L2
open TB (lk pt)
/-! U8: sizes of sequences and sweeps. -/
section
open TB (sz sz_div sz_add sz_mul sz_inv num_pos den_pos)
variable {B : Bd} {L : Str → Str → Prop} {v : Str → Rat} {f g : Rat}
theorem sum_sub_le {F : Str → Nat} : ∀ {l m : List Str}, l.Nodup → (∀ x ∈ l, x ∈ m) → (l.map F).sum ≤ (m.map F).sum
  | [], _, _, _ => Nat.zero_le _
  | a :: l, m, nd, h => by
    rw [List.nodup_cons] at nd
    have ha := h a List.mem_cons_self
    have ih := sum_sub_le (F := F) (l := l) (m := m.erase a) nd.2 fun x hx => (List.mem_erase_of_ne (fun e => nd.1 (by rw [← e]; exact hx))).mpr (h x (List.mem_cons_of_mem _ hx))
    have hp := ((List.perm_cons_erase ha).map F).sum_nat
    rw [List.map_cons, List.sum_cons] at hp
    rw [List.map_cons, List.sum_cons]
    omega
/-- the steps of a sum, by the sizes of its parts -/
theorem sum_s {F : Str → Rat} {s : Str → Nat} : ∀ {l : List Str}, (∀ z ∈ l, sz (s z) (F z)) → sz ((l.map fun z => s z + 1).sum + 1) (l.map F).sum
  | [], _ => sz_zero
  | a :: l, h => by
    have h1 := h a List.mem_cons_self
    have h2 := sum_s (F := F) (s := s) (l := l) fun z hz => h z (List.mem_cons_of_mem _ hz)
    rw [List.map_cons, List.sum_cons, List.map_cons, List.sum_cons]
    exact (sz_add h1 h2).mono (by omega)
theorem SumOk.one {q : Rat} {n : Nat} (h : sz n q) (hn : n < 9000) : SumOk [q] := by
  intro i x hi
  cases i with
  | zero => cases hi; exact ⟨1, n, sz_zero, h, by omega⟩
  | succ i => simp at hi
def wS (B : Bd) (s : Str → Nat) : Nat := ((nms B).map fun c => s c + 1).sum
theorem lo_up_nd (h : BOk B L) {c : Str} (hc : c ∈ nms B) : (lo B c ++ (up B c ++ [c])).Nodup := by
  rw [List.nodup_append]
  refine ⟨pw_nodup (lo_asc h c), ?_, ?_⟩
  · rw [List.nodup_append]
    refine ⟨pw_nodup (up_asc h c), by simp, fun a ha b hb e => ?_⟩
    simp at hb; subst hb; subst e; exact not_up h hc ha
  · intro a ha b hb e
    subst e
    rcases List.mem_append.mp hb with hb | hb
    · exact Rc.irr h ((Rc.one ha).trans (.one ((up_iff h).mp hb).2))
    · simp at hb; subst hb; exact not_lo h hc ha
def setN (s : Str → Nat) (c : Str) (x : Nat) : Str → Nat := fun d => if d = c then x else s d
theorem wS_set (h : BOk B L) {s : Str → Nat} {c : Str} (hc : c ∈ nms B) (x : Nat) : wS B (setN s c x) + (s c + 1) = wS B s + (x + 1) := by
  have key : ∀ {l : List Str}, l.Nodup → c ∈ l → (l.map fun d => setN s c x d + 1).sum + (s c + 1) = (l.map fun d => s d + 1).sum + (x + 1) := by
    intro l
    induction l with
    | nil => intro _ hm; cases hm
    | cons a l ih =>
      intro nd hm
      rw [List.nodup_cons] at nd
      simp only [List.map_cons, List.sum_cons]
      by_cases e : a = c
      · subst e
        have : (l.map fun d => setN s a x d + 1) = l.map fun d => s d + 1 := List.map_congr_left fun d hd => by
          have : d ≠ a := fun e => nd.1 (by rw [← e]; exact hd)
          simp [setN, this]
        rw [this]
        simp [setN]; omega
      · have hm' : c ∈ l := by
          rcases List.mem_cons.mp hm with h | h
          · exact absurd h.symm e
          · exact h
        have := ih nd.2 hm'
        simp only [setN, if_neg e]
        unfold setN at this
        omega
  exact key h.nd hc
theorem wS_const (n : Nat) : wS B (fun _ => n) = (n + 1) * B.length := by
  unfold wS
  rw [show (n + 1) * B.length = (n + 1) * (nms B).length by rw [show (nms B).length = B.length from List.length_map ..]]
  generalize nms B = l
  induction l with
  | nil => rfl
  | cons a l ih => rw [List.map_cons, List.sum_cons, ih, List.length_cons, Nat.mul_succ]; show n + 1 + _ = _; omega
/-! sweeps: a common numerator -/
structure Com (v : Str → Rat) (g : Rat) (l : List Str) (M : Nat) : Prop where
  ex : ∃ (D pg : Int) (p : Str → Int), 0 < D ∧ D.natAbs < 2 ^ M ∧ 0 < pg ∧ pg.natAbs < 2 ^ M ∧ g = (D : Rat) / (pg : Rat) ∧ ∀ y ∈ l, 0 < p y ∧ (p y).natAbs < 2 ^ M ∧ v y = (D : Rat) / (p y : Rat)
theorem Com.sz {l : List Str} {M : Nat} (C : Com v g l M) : ∀ y ∈ l, sz M (v y) := fun y hy => by
  obtain ⟨D, pg, p, D0, DM, g0, gM', eg, hp⟩ := C.ex
  obtain ⟨p1, p2, p3⟩ := hp y hy
  rw [p3]
  exact sz_div p1 DM p2
theorem Com.start {n : Nat} (hg : 0 < g) (hz : TB.sz n g) : Com v g [] n := ⟨g.num, (g.den : Int), fun _ => 0, num_pos hg, hz.1, den_pos g, hz.den, by rw [← Rat.divInt_eq_div]; exact (Rat.num_divInt_den g).symm, by simp⟩
end
end TV
end
-- U9
-- UA
section
set_option Elab.async false
set_option linter.all false
set_option maxRecDepth 100000
set_option maxHeartbeats 2000000
set_option exponentiation.threshold 500000
namespace TV
open PySem L2
open TB (lk pt)
/-! UA: sharper sizes of sequences (neighbours of a cell are no neighbours of each other). -/
section
open TB (sz sz_div sz_add sz_mul sz_inv num_pos den_pos)
variable {B : Bd} {L : Str → Str → Prop} {v : Str → Rat} {f g : Rat}
def Ind (B : Bd) (I : List Str) : Prop := ∀ p ∈ I, ∀ q ∈ I, q ∉ lo B p
/-- S bounds all sizes together, a those of cells of which none covers another -/
structure Fb (B : Bd) (s : Str → Nat) (S a : Nat) : Prop where
  all : wS B s ≤ S
  ind : ∀ I : List Str, I.Nodup → (∀ c ∈ I, c ∈ nms B) → Ind B I → (I.map fun c => s c + 1).sum ≤ a
  le : a ≤ S
theorem Fb.start {s : Str → Nat} {S : Nat} (h : wS B s ≤ S) : Fb B s S S := ⟨h, fun I nd hs _ => Nat.le_trans (sum_sub_le nd hs) h, Nat.le_refl _⟩
theorem nbr_ind (h : BOk B L) {c : Str} (hc : c ∈ nms B) : Ind B (lo B c ++ up B c) := by
  intro p hp q hq hm
  obtain ⟨r, hr, rfl⟩ := mem_nms hc
  rcases List.mem_append.mp hp with hp | hp <;> rcases List.mem_append.mp hq with hq | hq
  · rw [lo_of h.nd hr] at hp hq
    exact h.toRc.red r hr q hq p hp (.one hm)
  · exact Rc.irr h (((Rc.one hp).trans (.one hm)).trans (.one ((up_iff h).mp hq).2))
  · have h1 := ((up_iff h).mp hp).2
    obtain ⟨p', hp', rfl⟩ := mem_nms (lo_mem h1)
    rw [lo_of h.nd hp'] at h1 hm
    exact h.toRc.red p' hp' q hm r.1 h1 (.one hq)
  · have h1 := ((up_iff h).mp hp).2
    have h2 := ((up_iff h).mp hq).2
    obtain ⟨p', hp', rfl⟩ := mem_nms (lo_mem h1)
    rw [lo_of h.nd hp'] at h1 hm
    exact h.toRc.red p' hp' r.1 h1 q hm (.one h2)
theorem Fb.step (h : BOk B L) {s : Str → Nat} {S a e : Nat} (F : Fb B s S a) {c : Str} (hc : c ∈ nms B) {m : Nat} (hm : m ≤ ((lo B c).map fun z => s z + 1).sum + ((up B c).map fun z => s z + 1).sum + s c + e) : Fb B (setN s c m) (S + a + e) (S + e) := by
  have nd := lo_up_nd h hc
  have hN : ((lo B c ++ up B c).map fun z => s z + 1).sum ≤ a := F.ind _ (by
    rw [← List.append_assoc] at nd
    exact (List.nodup_append.mp nd).1) (fun z hz => by
      rcases List.mem_append.mp hz with hz | hz
      · exact low_in h hz
      · exact up_in hz) (nbr_ind h hc)
  have hNs : ((lo B c ++ up B c).map fun z => s z + 1).sum = ((lo B c).map fun z => s z + 1).sum + ((up B c).map fun z => s z + 1).sum := by rw [List.map_append, List.sum_append]
  have hw := wS_set (s := s) h hc m
  have hall := F.all
  refine ⟨by omega, fun I ndI hI hind => ?_, by omega⟩
  by_cases hcI : c ∈ I
  · have key : ∀ {l : List Str}, l.Nodup → c ∈ l → (l.map fun d => setN s c m d + 1).sum + (s c + 1) = (l.map fun d => s d + 1).sum + (m + 1) := by
      intro l
      induction l with
      | nil => intro _ hm; cases hm
      | cons a l ih =>
        intro ndl hm
        rw [List.nodup_cons] at ndl
        simp only [List.map_cons, List.sum_cons]
        by_cases e : a = c
        · subst e
          have : (l.map fun d => setN s a m d + 1) = l.map fun d => s d + 1 := List.map_congr_left fun d hd => by
            have : d ≠ a := fun e => ndl.1 (by rw [← e]; exact hd)
            simp [setN, this]
          rw [this]
          simp [setN]; omega
        · have hm' : c ∈ l := by
            rcases List.mem_cons.mp hm with h | h
            · exact absurd h.symm e
            · exact h
          have := ih ndl.2 hm'
          simp only [setN, if_neg e]
          unfold setN at this
          omega
    have k1 := key ndI hcI
    have hu : ((I ++ (lo B c ++ up B c)).map fun z => s z + 1).sum ≤ wS B s := sum_sub_le (by
      rw [List.nodup_append]
      refine ⟨ndI, ?_, ?_⟩
      · rw [← List.append_assoc] at nd
        exact (List.nodup_append.mp nd).1
      · intro x hx y hy e
        subst e
        rcases List.mem_append.mp hy with hy | hy
        · exact hind c hcI x hx hy
        · exact hind x hx c hcI ((up_iff h).mp hy).2) (fun z hz => by
      rcases List.mem_append.mp hz with hz | hz
      · exact hI z hz
      · rcases List.mem_append.mp hz with hz | hz
        · exact low_in h hz
        · exact up_in hz)
    rw [List.map_append, List.sum_append, hNs] at hu
    omega
  · have : (I.map fun d => setN s c m d + 1) = I.map fun d => s d + 1 := List.map_congr_left fun d hd => by
      have : d ≠ c := fun e => hcI (by rw [← e]; exact hd)
      simp [setN, this]
    rw [this]
    have := F.ind I ndI hI hind
    have := F.le
    omega
def FbOk (e : Nat) : Nat → Nat → Nat → Prop
  | _, _, 0 => True
  | S, a, k + 1 => S + e ≤ 6643 ∧ FbOk e (S + a + e) (S + e) k
instance (e : Nat) : ∀ S a k, Decidable (FbOk e S a k)
  | _, _, 0 => inferInstanceAs (Decidable True)
  | S, a, k + 1 => have := instDecidableFbOk e (S + a + e) (S + e) k; inferInstanceAs (Decidable (_ ∧ _))
theorem FbOk.mono {e : Nat} : ∀ {k j S a : Nat}, FbOk e S a k → j ≤ k → FbOk e S a j
  | _, 0, _, _, _, _ => trivial
  | 0, j + 1, _, _, _, h => by omega
  | k + 1, j + 1, _, _, o, h => ⟨o.1, FbOk.mono o.2 (by omega)⟩
end
end TV
end
-- K1
section
set_option Elab.async false
set_option linter.all false
set_option maxRecDepth 100000
set_option maxHeartbeats 2000000
set_option exponentiation.threshold 500000
namespace TV
open PySem L2
open TB (lk pt)
/-! K1: sharp sizes of sweeps. -/
section
open TB (sz sz_div sz_add sz_mul sz_inv num_pos den_pos)
variable {B : Bd} {L : Str → Str → Prop} {v w : Str → Rat} {f g : Rat}
def zb (N : Nat) (q : Rat) : Prop := q.num.natAbs ≤ N ∧ q.den ≤ N
theorem zb.mono {M N : Nat} {q : Rat} (h : zb M q) (hl : M ≤ N) : zb N q := ⟨Nat.le_trans h.1 hl, Nat.le_trans h.2 hl⟩
theorem zb.sz {N n : Nat} {q : Rat} (h : zb N q) (hn : N < 2 ^ n) : sz n q := ⟨Nat.lt_of_le_of_lt h.1 hn, Nat.lt_of_le_of_lt h.2 hn⟩
theorem zb.den {N : Nat} {q : Rat} (h : zb N q) : (q.den : Int).natAbs ≤ N := by simpa using h.2
theorem zb_div {n m : Int} {N : Nat} (hm : 0 < m) (h1 : n.natAbs ≤ N) (h2 : m.natAbs ≤ N) : zb N ((n : Rat) / (m : Rat)) := by
  refine ⟨?_, ?_⟩
  · rw [TB.red_num hm]
    exact Nat.le_trans (TB.natAbs_ediv_le _ _) h1
  · have := TB.red_den (n := n) hm
    have h3 := TB.natAbs_ediv_le m (Int.gcd n m)
    rw [← this] at h3
    simp at h3
    exact Nat.le_trans h3 h2
def pr : List Nat → Nat
  | [] => 1
  | a :: l => a * pr l
end
end TV
end
-- N1
section
set_option Elab.async false
set_option linter.all false
set_option maxRecDepth 100000
set_option maxHeartbeats 2000000
set_option exponentiation.threshold 500000
namespace TV
open PySem L2
open TB (lk pt)
/-! N1: draws from a list of three numbers. -/
section
open TB (sz sz_div num_pos den_pos)
structure Sst where
  d : Int
  n : Int
  m : Int
def Sst.V (s : Sst) : List Va := [.int s.d, .int s.n, .int s.m]
def ZO (A : So) (s : Sst) (N : So) : So := A ++ .lst s.V :: N
theorem ZO_get (A : So) (s : Sst) (N : So) : (ZO A s N)[A.length]? = some (.lst s.V) := by simp [ZO]
theorem ZO_len (A : So) (s s' : Sst) (N : So) : (ZO A s N).length = (ZO A s' N).length := by simp [ZO]
theorem ZO_app (A : So) (s : Sst) (N : So) (x : Ob) : ZO A s N ++ [x] = ZO A s (N ++ [x]) := by simp [ZO]
theorem ix_ZO0 (A : So) (s : Sst) (N : So) : ixV (ZO A s N) (.ref A.length) (.int 0) = some (.int s.d) := by
  simp only [ixV, asD, asQ, ZO_get]; rfl
theorem ix_ZO1 (A : So) (s : Sst) (N : So) : ixV (ZO A s N) (.ref A.length) (.int 1) = some (.int s.n) := by
  simp only [ixV, asD, asQ, ZO_get]; rfl
theorem ix_ZO2 (A : So) (s : Sst) (N : So) : ixV (ZO A s N) (.ref A.length) (.int 2) = some (.int s.m) := by
  simp only [ixV, asD, asQ, ZO_get]; rfl
theorem set_ZO0 (A : So) (s : Sst) (N : So) (x : Int) : setV (ZO A s N) (.ref A.length) (.int 0) (.int x) = some (ZO A { s with d := x } N) := by
  simp only [setV, ZO_get]
  show some ((ZO A s N).set A.length (.lst [.int x, .int s.n, .int s.m])) = _
  simp [ZO, List.set_append, Sst.V]
theorem set_ZO1 (A : So) (s : Sst) (N : So) (x : Int) : setV (ZO A s N) (.ref A.length) (.int 1) (.int x) = some (ZO A { s with n := x } N) := by
  simp only [setV, ZO_get]
  show some ((ZO A s N).set A.length (.lst [.int s.d, .int x, .int s.m])) = _
  simp [ZO, List.set_append, Sst.V]
theorem mixed_ok (s p : Int) (hp : 0 ≤ p) (hq : p ≤ 1000000) : ∃ r : Int, 0 ≤ r ∧ r < 2147483629 ∧ Pu f__law_mixed [.int s, .int p] (.int r) := by
  have hs0 := Int.emod_nonneg s (show (2147483647 : Int) ≠ 0 by decide)
  have hs1 := Int.emod_lt_of_pos s (show (0 : Int) < 2147483647 by decide)
  have hpp : 0 ≤ p * p ∧ p * p ≤ 1000000 * 1000000 := ⟨Int.mul_nonneg hp hp, Int.mul_le_mul hq hq hp (by decide)⟩
  have h7 : 7919 * p * p = 7919 * (p * p) := Int.mul_assoc ..
  generalize hx : s % 2147483647 + 7919 * p * p + 31 * p = x
  have hx0 : 0 ≤ x := by omega
  have hx1 : x < 2 ^ 64 := by omega
  generalize hy : x * 48271 % 2147483647 = y
  have hy0 : 0 ≤ y := by rw [← hy]; exact Int.emod_nonneg _ (by decide)
  have hy1 : y < 2147483647 := by rw [← hy]; exact Int.emod_lt_of_pos _ (by decide)
  refine ⟨y * (69621 + 2 * p) % 2147483629, Int.emod_nonneg _ (by decide), Int.emod_lt_of_pos _ (by decide), fun O => ?_⟩
  unfold f__law_mixed b__law_mixed
  refine r_fn0 rfl (r_seq (Γ1 := [some (.int y), some (.int p)]) (O1 := O) (r_asgN (r_op (r_op (r_op (r_op (r_op (by walk_at "tv go") (by walk_at "tv go") (mod_ok O (by decide))) (r_op (r_op (by walk_at "tv go") (by walk_at "tv go") (mul_sm O (small (k := 7919) (by decide) (by decide)) (small (k := 1000000) (by omega) (by decide)))) (by walk_at "tv go") (mul_sm O (small (k := 7919 * 1000000) (by omega) (by decide)) (small (k := 1000000) (by omega) (by decide)))) (add_ii _ _ _)) (r_op (by walk_at "tv go") (by walk_at "tv go") (mul_sm O (small (k := 31) (by decide) (by decide)) (small (k := 1000000) (by omega) (by decide)))) (by rw [add_ii, hx])) (by walk_at "tv go") (mul_sm O (small (k := 2 ^ 64) (by omega) (by decide)) (small (k := 48271) (by decide) (by decide)))) (by walk_at "tv go") (by rw [mod_ok O (by decide), hy]))) (r_ret (r_op (r_op (by walk_at "tv go") (r_op (by walk_at "tv go") (r_op (by walk_at "tv go") (by walk_at "tv go") (mul_sm O (small (k := 2) (by decide) (by decide)) (small (k := 1000000) (by omega) (by decide)))) (add_ii _ _ _)) (mul_sm O (small (k := 2147483647) (by omega) (by decide)) (small (k := 2069621) (by omega) (by decide)))) (by walk_at "tv go") (mod_ok O (by decide)))))
/-- b bounds the number of draws so far -/
def Bd2 (s : Sst) (b : Int) : Prop := 0 ≤ s.n ∧ s.n ≤ b
theorem draw_okS (A N : So) (s : Sst) (b size : Int) (h : Bd2 s b) (hb : b ≤ 900000) (h0 : 0 < size) (h1 : size ≤ 1000000000) : ∃ (x : Int) (s' : Sst), 0 ≤ x ∧ x < size ∧ Bd2 s' (b + 1) ∧ f__law_draw [.ref A.length, .int size] (ZO A s N) = some (.int x, ZO A s' N) := by
  have hsz : size.natAbs < 2 ^ 9000 := Nat.lt_of_le_of_lt (show size.natAbs ≤ 2 ^ 30 by omega) (Nat.pow_lt_pow_right (by decide) (by decide))
  obtain ⟨p0, p1⟩ := h
  by_cases hd : s.d = 0
  · obtain ⟨r1, a1, a2, m1⟩ := mixed_ok s.m (s.n + 1) (by omega) (by omega)
    obtain ⟨r2, b1, b2, m2⟩ := mixed_ok r1 7 (by decide) (by decide)
    refine ⟨r2 % size, { s with n := s.n + 1 }, Int.emod_nonneg _ (by omega), Int.emod_lt_of_pos _ h0, ⟨by show 0 ≤ s.n + 1; omega, by show s.n + 1 ≤ b + 1; omega⟩, ?_⟩
    have hb : b__law_draw (start 3 [.ref A.length, .int size]) (ZO A s N) = some (.rt (.int (r2 % size)), ZO A { s with n := s.n + 1 } N) := by
      unfold b__law_draw
      have i0 := ix_ZO0 A { s with n := s.n + 1 } N
      have i1 := ix_ZO1 A { s with n := s.n + 1 } N
      have i2 := ix_ZO2 A { s with n := s.n + 1 } N
      exact r_seq (r_setI (r_op (r_op (by walk_at "tv go") (by walk_at "tv go") (ix_ZO1 A s N)) (by walk_at "tv go") (add_ii _ _ _)) (by walk_at "tv go") (by walk_at "tv go") (set_ZO1 A s N _)) (r_seqR (r_sif1 (r_b (r_op (r_op (by walk_at "tv go") (by walk_at "tv go") i0) (by walk_at "tv go") (by rw [eq_i, decide_eq_true (show s.d = 0 from hd)]))) (r_ret (r_op (r_call0 (r_cons (r_call0 (r_cons (r_op (by walk_at "tv go") (by walk_at "tv go") i2) (r_cons (r_op (by walk_at "tv go") (by walk_at "tv go") i1) (by walk_at "tv go"))) (m1 _)) (by walk_at "tv go")) (m2 _)) (by walk_at "tv go") (mod_ok _ h0)))))
    unfold f__law_draw
    rw [r_fn (np := 2) rfl hb, gc_len (ZO_len ..)]
  · refine ⟨s.d % size, { s with n := s.n + 1, d := s.d / size }, Int.emod_nonneg _ (by omega), Int.emod_lt_of_pos _ h0, ⟨by show 0 ≤ s.n + 1; omega, by show s.n + 1 ≤ b + 1; omega⟩, ?_⟩
    have hb : b__law_draw (start 3 [.ref A.length, .int size]) (ZO A s N) = some (.rt (.int (s.d % size)), ZO A { s with n := s.n + 1, d := s.d / size } N) := by
      unfold b__law_draw
      have i0 := ix_ZO0 A { s with n := s.n + 1 } N
      exact r_seq (r_setI (r_op (r_op (by walk_at "tv go") (by walk_at "tv go") (ix_ZO1 A s N)) (by walk_at "tv go") (add_ii _ _ _)) (by walk_at "tv go") (by walk_at "tv go") (set_ZO1 A s N _)) (r_seq (r_sif0 (r_b (r_op (r_op (by walk_at "tv go") (by walk_at "tv go") i0) (by walk_at "tv go") (by rw [eq_i, decide_eq_false (show ¬ s.d = 0 from hd)]))) (by walk_at "tv go")) (r_seq (r_asgN (r_op (r_op (by walk_at "tv go") (by walk_at "tv go") i0) (by walk_at "tv go") (mod_ok _ h0))) (r_seq (r_setI (r_op (r_op (by walk_at "tv go") (by walk_at "tv go") i0) (by walk_at "tv go") (div_ok _ h0 hsz)) (by walk_at "tv go") (by walk_at "tv go") (set_ZO0 A { s with n := s.n + 1 } N _)) (r_ret (by walk_at "tv go")))))
    unfold f__law_draw
    rw [r_fn (np := 2) rfl hb, gc_len (ZO_len ..)]
theorem lowest_ok (n m : Int) (hn : 0 ≤ n) (hm : 0 < m) (h : m.natAbs < 2 ^ 9000) : Pu f__law_lowest [.int n, .int m] (fq ((n : Rat) / (m : Rat))) := fun O => by
  obtain ⟨h1, h2⟩ := gcd_bd (n := n) hm h
  unfold f__law_lowest b__law_lowest l__law_lowest_1
  have hw := sWhile_of (euclid (i := 2) (j := 3) (by decide) (fun Γ O y h _ => c_ne 3 Γ O y h) (m.natAbs + 1) n m [some (.int n), some (.int m), some (.int n), some (.int m)] O hn (by omega) (by omega) rfl rfl)
  simp [fn, start, gc_same, mVar, mC, mOp, mUn, aNil, aCons, mCB, mTup, mLst, mB, mAnd, mOr, mNot, tAnd, tOr, tNot, mIf, mChain, sNext, sSeq, sRet, sRetN, sDrop, sIf, sAsg, sPar, sPar3, gN, gNl, gCs, gT, mNone, mSome, mSl, mIt, itemsOf, xArg, mCall, mCallN, add_ii, subV, negV, ltV, leV, gtV, geV, isV, isNotV, isNone, ix_t0, ix_t1, isiV, tyOf, kit_ii, kit_ib, kit_tt, kit_ss, sl_1, sl_2, sl_3, len_t, sNever, hw, div_ok O (a := n) h1 h2, div_ok O (a := m) h1 h2, fq_red hm]
theorem fraction_okS (A N : So) (s : Sst) (b : Int) (h : Bd2 s b) (hb : b ≤ 800000) : ∃ (q : Rat) (s' : Sst), 0 < q ∧ zb 9 q ∧ Bd2 s' (b + 2) ∧ f__law_fraction [.ref A.length] (ZO A s N) = some (fq q, ZO A s' N) := by
  obtain ⟨x, s1, x0, x1, h1, d1⟩ := draw_okS A N s b 9 h (by omega) (by decide) (by decide)
  obtain ⟨y, s2, y0, y1, h2, d2⟩ := draw_okS A N s1 (b + 1) 9 h1 (by omega) (by decide) (by decide)
  have hz : (1 + y).natAbs < 2 ^ 9000 := Nat.lt_of_le_of_lt (show (1 + y).natAbs ≤ 2 ^ 4 by omega) (Nat.pow_lt_pow_right (by decide) (by decide))
  have hr := lowest_ok (1 + x) (1 + y) (by omega) (by omega) hz (ZO A s2 N)
  refine ⟨((1 + x : Int) : Rat) / ((1 + y : Int) : Rat), s2, TB.div_pos (TB.cast_pos (by omega)) (TB.cast_pos (by omega)), zb_div (by omega) (by omega) (by omega), by rw [show b + 2 = b + 1 + 1 by omega]; exact h2, ?_⟩
  have hb : b__law_fraction (start 1 [.ref A.length]) (ZO A s N) = some (.rt (fq (((1 + x : Int) : Rat) / ((1 + y : Int) : Rat))), ZO A s2 N) := by
    unfold b__law_fraction
    exact r_ret (r_call0 (r_cons (r_op (by walk_at "tv go") (r_call0 (by walk_at "tv go") d1) (add_ii _ _ _)) (r_cons (r_op (by walk_at "tv go") (r_call0 (by walk_at "tv go") d2) (add_ii _ _ _)) (by walk_at "tv go"))) hr)
  unfold f__law_fraction
  rw [r_fn (np := 1) rfl hb, gc_len (ZO_len ..)]
theorem stream_ok (x k : Int) (h0 : 0 ≤ k) (h1 : k ≤ 100) (O : So) : ∃ s : Sst, Bd2 s 0 ∧ f__law_stream [.int x, .int k] O = some (.ref O.length, ZO O s []) := by
  obtain ⟨r, a1, a2, m1⟩ := mixed_ok x k h0 (by omega)
  have hpow : ∀ O, powV O (.int 10) (.int 18) = some (.int (10 ^ 18)) := fun O => by simp [powV]
  let s : Sst := ⟨if (10 : Int) ^ 18 ≤ x then x else 0, 0, r⟩
  refine ⟨s, ⟨Int.le_refl _, Int.le_refl _⟩, ?_⟩
  have hdig : mIf (mB (mOp geV (mVar 0) (mOp powV (mC (.int 10)) (mC (.int 18))))) (mVar 0) (mC (.int 0)) (start 2 [.int x, .int k]) O = some (.int s.d, O) := by
    by_cases hx : (10 : Int) ^ 18 ≤ x
    · have e : s.d = x := by show (if (10 : Int) ^ 18 ≤ x then x else 0) = x; rw [if_pos hx]
      rw [e]
      exact r_if1 (r_b (r_op (by walk_at "tv go") (r_op (by walk_at "tv go") (by walk_at "tv go") (hpow _)) (by simp only [geV, decide_eq_true hx]))) (by walk_at "tv go")
    · have e : s.d = 0 := by show (if (10 : Int) ^ 18 ≤ x then x else 0) = 0; rw [if_neg hx]
      rw [e]
      exact r_if0 (r_b (r_op (by walk_at "tv go") (r_op (by walk_at "tv go") (by walk_at "tv go") (hpow _)) (by simp only [geV, decide_eq_false hx]))) (by walk_at "tv go")
  have hb : b__law_stream (start 2 [.int x, .int k]) O = some (.rt (.ref O.length), ZO O s []) := by
    unfold b__law_stream
    exact r_ret (r_trL (xs := s.V) (r_lst (r_cons hdig (r_cons (by walk_at "tv go") (r_cons (r_call0 (by walk_at "tv go") (m1 _)) (by walk_at "tv go")))) (by exact sl_3)))
  unfold f__law_stream
  rw [r_fn (np := 2) rfl hb]
  have hg : gc O (.ref O.length) (ZO O s []) = ZO O s [] := by
    unfold gc
    rw [if_neg]
    rintro ⟨h, _⟩
    simp [below] at h
  rw [hg]
end
end TV
end
-- N2
section
set_option Elab.async false
set_option linter.all false
set_option maxRecDepth 100000
set_option maxHeartbeats 2000000
set_option exponentiation.threshold 500000
namespace TV
open PySem L2
open TB (lk pt)
/-! N2: fractions, a large and a small one. -/
section
open TB (sz sz_div sz_add sz_mul sz_inv num_pos den_pos red_num red_den add_frac mul_frac gcd_fr num_inv_pos den_inv_pos)
/-- a divisor of a/d + b/e in its raw form divides the square of e -/
theorem gcd_sum_dvd {a d b e : Int} (h : Int.gcd a d = 1) : ((Int.gcd (a * e + b * d) (d * e) : Nat) : Int) ∣ e * e := by
  have g1 : ((Int.gcd (a * e + b * d) (d * e) : Nat) : Int) ∣ a * e + b * d := Int.gcd_dvd_left ..
  have g2 : ((Int.gcd (a * e + b * d) (d * e) : Nat) : Int) ∣ d * e := Int.gcd_dvd_right ..
  generalize ((Int.gcd (a * e + b * d) (d * e) : Nat) : Int) = g at g1 g2
  have k1 : g ∣ a * (e * e) := by
    have h1 : g ∣ (a * e + b * d) * e := Int.dvd_mul_of_dvd_left g1
    have h2 : g ∣ b * (d * e) := Int.dvd_mul_of_dvd_right g2
    have h3 := Int.dvd_sub h1 h2
    have e1 : (a * e + b * d) * e - b * (d * e) = a * (e * e) := by grind
    rwa [e1] at h3
  have k2 : g ∣ d * (e * e) := by
    have h1 : g ∣ d * e * e := Int.dvd_mul_of_dvd_left g2
    rwa [Int.mul_assoc] at h1
  have k3 : g ∣ ((Int.gcd (a * (e * e)) (d * (e * e)) : Nat) : Int) := Int.dvd_coe_gcd k1 k2
  rw [Int.gcd_mul_right, h, Nat.one_mul] at k3
  exact Int.dvd_natAbs.mp k3
theorem gcd_prod_dvd {a d b e : Int} (h : Int.gcd a d = 1) : ((Int.gcd (a * b) (d * e) : Nat) : Int) ∣ b * e := by
  have g1 : ((Int.gcd (a * b) (d * e) : Nat) : Int) ∣ a * b := Int.gcd_dvd_left ..
  have g2 : ((Int.gcd (a * b) (d * e) : Nat) : Int) ∣ d * e := Int.gcd_dvd_right ..
  generalize ((Int.gcd (a * b) (d * e) : Nat) : Int) = g at g1 g2
  have k1 : g ∣ a * (b * e) := by
    have h1 : g ∣ a * b * e := Int.dvd_mul_of_dvd_left g1
    rwa [Int.mul_assoc] at h1
  have k2 : g ∣ d * (b * e) := by
    have h1 : g ∣ b * (d * e) := Int.dvd_mul_of_dvd_right g2
    have e1 : b * (d * e) = d * (b * e) := by grind
    rwa [e1] at h1
  have k3 : g ∣ ((Int.gcd (a * (b * e)) (d * (b * e)) : Nat) : Int) := Int.dvd_coe_gcd k1 k2
  rw [Int.gcd_mul_right, h, Nat.one_mul] at k3
  exact Int.dvd_natAbs.mp k3
theorem nat_le_of_dvd {g x : Int} (hg : g ∣ x) (hx : x ≠ 0) : g.natAbs ≤ x.natAbs := Nat.le_of_dvd (Int.natAbs_pos.mpr hx) (Int.natAbs_dvd_natAbs.mpr hg)
theorem reduced_g (n m : Int) (hn : 0 ≤ n) (hm : 0 < m) (hg : Int.gcd n m < 2 ^ 9000) : Pu f_reduced [.int n, .int m] (fq ((n : Rat) / (m : Rat))) := fun O => by
  have h1 : (0 : Int) < (Int.gcd n m : Int) := by
    have : 0 < Int.gcd n m := Int.gcd_pos_of_ne_zero_right n (by omega)
    omega
  have h2 : ((Int.gcd n m : Nat) : Int).natAbs < 2 ^ 9000 := by
    rw [Int.natAbs_natCast]; exact hg
  unfold f_reduced b_reduced
  simp [fn, start, gc_same, mVar, mC, mOp, mUn, aNil, aCons, mCB, mTup, mLst, mB, mAnd, mOr, mNot, tAnd, tOr, tNot, mIf, mChain, sNext, sSeq, sRet, sRetN, sDrop, sIf, sAsg, sPar, sPar3, gN, gNl, gCs, gT, mNone, mSome, mSl, mIt, itemsOf, xArg, mCall, mCallN, add_ii, subV, negV, ltV, leV, gtV, geV, isV, isNotV, isNone, ix_t0, ix_t1, isiV, tyOf, kit_ii, kit_ib, kit_tt, kit_ss, sl_1, sl_2, sl_3, len_t, sNever, gcd_ok n m hn (by omega) O, div_ok O (a := n) h1 h2, div_ok O (a := m) h1 h2, fq_red hm]
theorem fr_gcd (q : Rat) : Int.gcd q.num (q.den : Int) = 1 := gcd_fr q
theorem sum_of_two_big {p q : Rat} {a b : Nat} (hp : 0 ≤ p) (hq : 0 ≤ q) (sp : sz a p) (sq : sz b q) (ha : a ≤ 400000) (hb : 2 * b ≤ 9000) : Pu f_sum_of_two [fq p, fq q] (fq (p + q)) := fun O => by
  have p1 := nat_lt sp (k := 400000) ha
  have q1 := nat_lt sq (k := 400000) (by omega)
  have np : 0 ≤ p.num := Rat.num_nonneg.mpr hp
  have nq : 0 ≤ q.num := Rat.num_nonneg.mpr hq
  have dq := den_pos q
  have hg : Int.gcd (p.num * (q.den : Int) + q.num * (p.den : Int)) ((p.den : Int) * (q.den : Int)) < 2 ^ 9000 := by
    have h1 := nat_le_of_dvd (gcd_sum_dvd (b := q.num) (e := (q.den : Int)) (fr_gcd p)) (Int.mul_ne_zero (by omega) (by omega))
    rw [Int.natAbs_natCast] at h1
    refine Nat.lt_of_le_of_lt h1 (Nat.lt_of_lt_of_le (wide_lt sq.den sq.den) (Nat.pow_le_pow_right (by decide) (by omega)))
  have r := reduced_g (p.num * (q.den : Int) + q.num * (p.den : Int)) ((p.den : Int) * (q.den : Int)) (Int.add_nonneg (Int.mul_nonneg np (by omega)) (Int.mul_nonneg nq (by have := den_pos p; omega))) (Int.mul_pos (den_pos p) dq) hg O
  rw [add_frac] at r
  rw [fq_def p, fq_def q]
  unfold f_sum_of_two b_sum_of_two
  simp [fn, start, gc_same, mVar, mC, mOp, mUn, aNil, aCons, mCB, mTup, mLst, mB, mAnd, mOr, mNot, tAnd, tOr, tNot, mIf, mChain, sNext, sSeq, sRet, sRetN, sDrop, sIf, sAsg, sPar, sPar3, gN, gNl, gCs, gT, mNone, mSome, mSl, mIt, itemsOf, xArg, mCall, mCallN, add_ii, subV, negV, ltV, leV, gtV, geV, isV, isNotV, isNone, ix_t0, ix_t1, isiV, tyOf, kit_ii, kit_ib, kit_tt, kit_ss, sl_1, sl_2, sl_3, len_t, sNever, r, mul_ok O p1.1 q1.2, mul_ok O q1.1 p1.2, mul_ok O p1.2 q1.2]
theorem product_of_two_big {p q : Rat} {a b : Nat} (hp : 0 ≤ p) (hq : 0 < q) (sp : sz a p) (sq : sz b q) (ha : a ≤ 400000) (hb : 2 * b ≤ 9000) : Pu f_product_of_two [fq p, fq q] (fq (p * q)) := fun O => by
  have p1 := nat_lt sp (k := 400000) ha
  have q1 := nat_lt sq (k := 400000) (by omega)
  have np : 0 ≤ p.num := Rat.num_nonneg.mpr hp
  have nq := num_pos hq
  have dq := den_pos q
  have hg : Int.gcd (p.num * q.num) ((p.den : Int) * (q.den : Int)) < 2 ^ 9000 := by
    have h1 := nat_le_of_dvd (gcd_prod_dvd (b := q.num) (e := (q.den : Int)) (fr_gcd p)) (Int.mul_ne_zero (by omega) (by omega))
    rw [Int.natAbs_natCast] at h1
    refine Nat.lt_of_le_of_lt h1 (Nat.lt_of_lt_of_le (wide_lt sq.1 sq.den) (Nat.pow_le_pow_right (by decide) (by omega)))
  have r := reduced_g (p.num * q.num) ((p.den : Int) * (q.den : Int)) (Int.mul_nonneg np (by omega)) (Int.mul_pos (den_pos p) (den_pos q)) hg O
  rw [mul_frac] at r
  rw [fq_def p, fq_def q]
  unfold f_product_of_two b_product_of_two
  simp [fn, start, gc_same, mVar, mC, mOp, mUn, aNil, aCons, mCB, mTup, mLst, mB, mAnd, mOr, mNot, tAnd, tOr, tNot, mIf, mChain, sNext, sSeq, sRet, sRetN, sDrop, sIf, sAsg, sPar, sPar3, gN, gNl, gCs, gT, mNone, mSome, mSl, mIt, itemsOf, xArg, mCall, mCallN, add_ii, subV, negV, ltV, leV, gtV, geV, isV, isNotV, isNone, ix_t0, ix_t1, isiV, tyOf, kit_ii, kit_ib, kit_tt, kit_ss, sl_1, sl_2, sl_3, len_t, sNever, r, mul_ok O p1.1 q1.1, mul_ok O p1.2 q1.2]
theorem check_two_ok {p q : Rat} (hp : 0 < p) (hq : 0 < q) : Pu f_check_two [fq p, fq q] .none := fun O => by
  have h1 := is_fraction_ok hp
  have h2 := is_fraction_ok hq
  unfold f_check_two b_check_two l_check_two_1
  refine r_fnN0 rfl (Γ := [some (fq p), some (fq q), some (.int 1), some (fq q)]) (r_for (r_x (ys := [.tup [.int 0, fq p], .tup [.int 1, fq q]]) (r_cons (r_tup (by walk_at "tv go") (by exact sl_2)) (by walk_at "tv go")) rfl) ?_)
  rw [forL_cons (Γ1 := [some (fq p), some (fq q), some (.int 0), some (fq p)]) (Γ2 := [some (fq p), some (fq q), some (.int 0), some (fq p)]) (O2 := O) rfl (r_sif0 (r_tnot (r_b (r_call0 (by walk_at "tv go") (h1 O)))) (by walk_at "tv go"))]
  rw [forL_cons (Γ1 := [some (fq p), some (fq q), some (.int 1), some (fq q)]) (Γ2 := [some (fq p), some (fq q), some (.int 1), some (fq q)]) (O2 := O) rfl (r_sif0 (r_tnot (r_b (r_call0 (by walk_at "tv go") (h2 O)))) (by walk_at "tv go"))]
  rfl
theorem add_ok {p q : Rat} {a b : Nat} (hp : 0 < p) (hq : 0 < q) (sp : sz a p) (sq : sz b q) (ha : a ≤ 400000) (hb : 2 * b ≤ 9000) : Pu f_add [fq p, fq q] (fq (p + q)) := fun O => by
  unfold f_add b_add
  exact r_fn0 rfl (r_seq (r_drop (r_call0 (by walk_at "tv go") (check_two_ok hp hq O))) (r_ret (r_call0 (by walk_at "tv go") (sum_of_two_big (Rat.le_of_lt hp) (Rat.le_of_lt hq) sp sq ha hb O))))
theorem multiply_ok {p q : Rat} {a b : Nat} (hp : 0 < p) (hq : 0 < q) (sp : sz a p) (sq : sz b q) (ha : a ≤ 400000) (hb : 2 * b ≤ 9000) : Pu f_multiply [fq p, fq q] (fq (p * q)) := fun O => by
  unfold f_multiply b_multiply
  exact r_fn0 rfl (r_seq (r_drop (r_call0 (by walk_at "tv go") (check_two_ok hp hq O))) (r_ret (r_call0 (by walk_at "tv go") (product_of_two_big (Rat.le_of_lt hp) hq sp sq ha hb O))))
theorem divide_ok {p q : Rat} {a b : Nat} (hp : 0 < p) (hq : 0 < q) (sp : sz a p) (sq : sz b q) (ha : a ≤ 400000) (hb : 2 * b ≤ 9000) : Pu f_divide [fq p, fq q] (fq (p * q⁻¹)) := fun O => by
  unfold f_divide b_divide
  exact r_fn0 rfl (r_seq (r_drop (r_call0 (by walk_at "tv go") (check_two_ok hp hq O))) (r_ret (r_call0 (r_cons (by walk_at "tv go") (r_cons (r_call0 (by walk_at "tv go") (reciprocal_ok hq O)) (by walk_at "tv go"))) (product_of_two_big (Rat.le_of_lt hp) (Rat.inv_pos.mpr hq) sp (sz_inv hq sq) ha hb O))))
end
end TV
end
-- N3
section
set_option Elab.async false
set_option linter.all false
set_option maxRecDepth 100000
set_option maxHeartbeats 2000000
set_option exponentiation.threshold 500000
namespace TV
open PySem L2
open TB (lk pt)
/-! N3: parallel sums, covers asked for by cell. -/
section
open TB (sz sz_div sz_add sz_mul sz_inv num_pos den_pos)
theorem kit_ll : kitB "list" "list" = some true := by decide +kernel
theorem kit_lt : kitB "list" "tuple" = some false := by decide +kernel
theorem sl_drop1 (O : So) {α : Type} (f : α → Va) (x : α) (l : List α) : slV O (.lst ((x :: l).map f)) (some 1) none = some (.lst (l.map f)) := by
  show some (Va.lst (cut ((x :: l).map f) (some 1) none)) = _
  rw [cut1]
  rfl
theorem sum_take_succ {l : List Rat} {i : Nat} {x : Rat} (h : l[i]? = some x) : (l.take (i + 1)).sum = (l.take i).sum + x := by
  rw [List.take_add_one, h]
  exact sum_snoc _ _
theorem take_sz {n i : Nat} {qs : List Rat} (hs : ∀ q ∈ qs, sz n q) (hi : i ≤ 80) : sz ((n + 1) * 80 + 1) (qs.take i).sum := by
  have h1 := sum_sz (n := n) (qs := qs.take i) fun z hz => hs z (List.mem_of_mem_take hz)
  refine h1.mono (Nat.add_le_add_right (Nat.mul_le_mul_left _ ?_) _)
  rw [List.length_take]
  omega
theorem parallel_sum_ok {qs : List Rat} {n : Nat} (hne : qs ≠ []) (hq : ∀ q ∈ qs, 0 < q) (hs : ∀ q ∈ qs, sz n q) (hn : 2 * n ≤ 9000) (hl : qs.length ≤ 79) : Pu f_parallel_sum [.lst (qs.map fq)] (fq ((qs.map fun q => q⁻¹).sum)⁻¹) := fun O => by
  obtain ⟨q, t, rfl⟩ : ∃ q t, qs = q :: t := List.exists_cons_of_ne_nil hne
  have q0 := hq q List.mem_cons_self
  have t0 : ∀ x ∈ t, 0 < x := fun x hx => hq x (List.mem_cons_of_mem _ hx)
  have is : ∀ x ∈ (q :: t).map (fun q => q⁻¹), sz n x := fun x hx => by
    obtain ⟨y, hy, rfl⟩ := List.mem_map.mp hx
    exact sz_inv (hq y hy) (hs y hy)
  have ip : ∀ x ∈ (q :: t).map (fun q => q⁻¹), 0 < x := fun x hx => by
    obtain ⟨y, hy, rfl⟩ := List.mem_map.mp hx
    exact Rat.inv_pos.mpr (hq y hy)
  have hn9 : (n + 1) * 80 + 1 ≤ 400000 := by omega
  obtain ⟨Γ1, f1, a1, b1, rfl⟩ := forL_same (g := gT (gCs (gN 3) (gCs (gN 2) gNl))) (b := l_parallel_sum_1) (O := O) (fun Γ => ∃ a b : Option Va, Γ = [some (.lst ((q :: t).map fq)), none, a, b]) (((q :: t).map fq).mapIdx fun i x => Va.tup [.int (i : Int), x]) [some (.lst ((q :: t).map fq)), none, none, none] ⟨none, none, rfl⟩ (by
    rintro x hx Γ ⟨a, b, rfl⟩
    obtain ⟨i, p, hi, rfl⟩ := mem_enum hx
    refine ⟨_, [some (.lst ((q :: t).map fq)), none, some (fq p), some (.int (i : Int))], rfl, ?_, _, _, rfl⟩
    unfold l_parallel_sum_1
    exact r_sif0 (r_tnot (p := true) (r_b (r_call0 (by walk_at "tv go") (is_fraction_ok (hq p (List.mem_of_getElem? hi)) O)))) (by walk_at "tv go"))
  obtain ⟨Γ2, O2, f2, x2, e1, e2⟩ := for_inv (g := gN 2) (h := fq) (b := l_parallel_sum_2) (xs := t) (Γ := [some (.lst ((q :: t).map fq)), some (fq q⁻¹), a1, b1]) (O := O)
    (fun i Γ O' => ∃ x2 : Option Va, Γ = [some (.lst ((q :: t).map fq)), some (fq (((q :: t).map fun q => q⁻¹).take (i + 1)).sum), x2, b1] ∧ O' = O) ⟨a1, by simp [Rat.add_zero], rfl⟩ (by
      rintro i p Γ O' hi ⟨x2, rfl, rfl⟩
      have hp := t0 p (List.mem_of_getElem? hi)
      have hil := (List.getElem?_eq_some_iff.mp hi).1
      have hi' : ((q :: t).map fun q => q⁻¹)[i + 1]? = some p⁻¹ := by simp [hi]
      have hpos : 0 ≤ (((q :: t).map fun q => q⁻¹).take (i + 1)).sum := sum_nn fun z hz => Rat.le_of_lt (ip z (List.mem_of_mem_take hz))
      have st := take_sz (i := i + 1) is (by simp only [List.length_cons] at hl; omega)
      have hsum := sum_of_two_big hpos (Rat.le_of_lt (Rat.inv_pos.mpr hp)) (st.mono (Nat.le_refl _)) (sz_inv hp (hs p (List.mem_cons_of_mem _ (List.mem_of_getElem? hi)))) (by omega) hn O'
      rw [← sum_take_succ hi'] at hsum
      refine ⟨_, _, O', rfl, ?_, some (fq p), rfl, rfl⟩
      unfold l_parallel_sum_2
      exact r_asgN (r_call0 (r_cons (by walk_at "tv go") (r_cons (r_call0 (by walk_at "tv go") (reciprocal_ok hp O')) (by walk_at "tv go"))) hsum))
  subst e1 e2
  have ef : (((q :: t).map fun q => q⁻¹).take (t.length + 1)).sum = ((q :: t).map fun q => q⁻¹).sum := by rw [List.take_of_length_le (by simp)]
  rw [ef] at f2
  have sp : 0 < ((q :: t).map fun q => q⁻¹).sum := sum_pos ip (by simp)
  unfold f_parallel_sum b_parallel_sum
  refine r_fn0 rfl (r_seq (r_sif0 (r_tor0 (r_tnot (p := true) (r_b (r_un (by walk_at "tv go") (v := .bool true) (by simp [isi2V, tyOf, kit_ll, kit_lt])))) (r_b (r_op (r_cb (by walk_at "tv go") (v := .int ((q :: t).length : Int)) (by simp [lenV, asQ])) (by walk_at "tv go") (v := .bool false) (by rw [eq_i, decide_eq_false]; simp only [List.length_cons]; omega)))) (by walk_at "tv go")) (r_seq (r_for (r_x (by walk_at "tv go") rfl) f1) (r_seq (r_asgN (r_call0 (r_cons (r_op (by walk_at "tv go") (by walk_at "tv go") (ix_l0 _ _ _)) (by walk_at "tv go")) (reciprocal_ok q0 _))) (r_seq (r_for (r_it (r_sl (by walk_at "tv go") (r_some (by walk_at "tv go")) (by walk_at "tv go") (sl_drop1 _ _ _ _)) rfl) f2) (r_ret (r_call0 (by walk_at "tv go") (reciprocal_ok sp _)))))))
variable {B : Bd} {L : Str → Str → Prop}
theorem veqS (a b : Str) : veq (.str a) (.str b) = decide (a = b) := by
  simp only [veq, toD, PyData.eqv]
  by_cases h : a = b <;> simp [h]
theorem in_tupS (O : So) (c : Str) (l : List Str) : inV O (.str c) (tupS l) = some (.bool (decide (c ∈ l))) := by
  have h1 : pl 60 (.str c) = true := rfl
  have h2 := pl_strs 60 l
  have h3 : (l.map Va.str).any (fun w => veq w (.str c)) = decide (c ∈ l) := by
    induction l with
    | nil => rfl
    | cons a l ih => simp only [List.map_cons, List.any_cons, veqS, ih (pl_strs 60 l), List.mem_cons, Bool.decide_or]; simp [eq_comm]
  simp only [inV, inB, tupS, asD, asQ, h1, h2, h3, and_self, if_true]
  rfl
theorem lower_covers_ok (h : BOk B L) {c : Str} (hc : c ∈ nms B) : Pu f_lower_covers [bdV B, .str c] (tupS (lo B c)) := fun O => by
  obtain ⟨p, hp, rfl⟩ := mem_nms hc
  unfold f_lower_covers b_lower_covers
  refine r_fn0 rfl (r_seq (r_drop (r_call0 (by walk_at "tv go") (check_cell_ok h hc O))) (r_ret (r_op (r_cb (by walk_at "tv go") (dictV_bd h.nd O)) (by walk_at "tv go") ?_)))
  rw [lo_of h.nd hp]
  exact ix_dct _ _ _ _ (lk_dB h.nd hp)
theorem upper_covers_ok (h : BOk B L) {c : Str} (hc : c ∈ nms B) : Pu f_upper_covers [bdV B, .str c] (tupS (up B c)) := fun O => by
  have hl := lcL_filter (g := gT (gCs (gN 2) (gCs (gN 3) gNl))) (t := mB (mOp inV (mVar 1) (mVar 3))) (e := mVar 2) (Γ := [some (bdV B), some (.str c), none, none]) (O := O) (h := itV) (r := fun p => .str p.1) (p := fun p => decide (c ∈ p.2)) B [] fun p hp =>
    ⟨[some (bdV B), some (.str c), some (.str p.1), some (tupS p.2)], rfl, r_b (r_op (by walk_at "tv go") (by walk_at "tv go") (in_tupS O c p.2)), fun _ => by walk_at "tv go"⟩
  unfold f_upper_covers b_upper_covers
  refine r_fn0 rfl (r_seq (r_drop (r_call0 (by walk_at "tv go") (check_cell_ok h hc O))) (r_ret (r_cb (r_cons (r_lc (r_it (by walk_at "tv go") its_bd) (by rw [List.length_map]; exact len36 h.small) hl) (by walk_at "tv go")) ?_)))
  simp only [tupleV, asQ, List.nil_append, Option.map_some]
  unfold tupS up
  rw [List.map_map]
  rfl
end
end TV
end
-- N4
section
set_option Elab.async false
set_option linter.all false
set_option maxRecDepth 100000
set_option maxHeartbeats 2000000
set_option exponentiation.threshold 500000
namespace TV
open PySem L2
open TB (lk pt)
/-! N4: the law's own toggle, labels as a tuple. -/
section
open TB (sz sz_div sz_add sz_mul sz_inv num_pos den_pos)
variable {B : Bd} {L : Str → Str → Prop} {v : Str → Rat} {f g : Rat} {c : Str} {s : Str → Nat} {sf sg : Nat}
theorem pl_fqs (n : Nat) (l : List Rat) : plAll (n + 1) (l.map fq) = true := by
  induction l with
  | nil => rfl
  | cons a l ih => simp only [List.map_cons, plAll, ih, Bool.and_true]; rfl
theorem eq_nilq (O : So) (l : List Rat) : eqV O (.lst (l.map fq)) (.lst []) = some (.bool (decide (l = []))) := by
  have e1 : pl 60 (.lst (l.map fq)) = true := by rw [pl]; exact pl_fqs 58 l
  have e2 : unref O (.lst (l.map fq)) = .lst (l.map fq) := rfl
  have e3 : unref O (.lst []) = .lst [] := rfl
  unfold eqV
  rw [e2, e3, if_pos ⟨e1, rfl⟩]
  cases l with
  | nil => rfl
  | cons a l => rfl
theorem ne_nilq (O : So) (l : List Rat) : neV O (.lst (l.map fq)) (.lst []) = some (.bool (decide (l ≠ []))) := by
  have e1 : pl 60 (.lst (l.map fq)) = true := by rw [pl]; exact pl_fqs 58 l
  have e2 : unref O (.lst (l.map fq)) = .lst (l.map fq) := rfl
  have e3 : unref O (.lst []) = .lst [] := rfl
  unfold neV
  rw [e2, e3, if_pos ⟨e1, rfl⟩]
  cases l with
  | nil => rfl
  | cons a l => rfl
/-- the cells' places -/
def dP (B : Bd) : List (Key × Va) := dI B fun i _ => nV i
theorem lk_dP (nd : (nms B).Nodup) {j : Nat} {p : Str × List Str} (h : B[j]? = some p) : lk (dP B) (.inr p.1) = some (nV j) := lk_dI nd h
theorem dP_eq : (List.range B.length).map (fun i => ((Sum.inr (nmF (nms B) i) : Key), nV i)) = dP B := by
  apply List.ext_getElem?
  intro k
  unfold dP dI
  rw [List.getElem?_map, List.getElem?_mapIdx]
  by_cases hk : k < B.length
  · have hB : B[k]? = some B[k] := List.getElem?_eq_getElem hk
    have hn : nmF (nms B) k = B[k].1 := by
      have : (nms B)[k]? = some B[k].1 := by unfold nms; rw [List.getElem?_map, hB]; rfl
      simp [nmF, this]
    rw [hB, List.getElem?_range hk]
    simp [hn]
  · rw [List.getElem?_eq_none (by simpa using hk), List.getElem?_eq_none (by simpa using hk)]
    rfl
theorem s_le (nd : (nms B).Nodup) (hc : c ∈ nms B) : s c + 1 ≤ wS B s := by
  have := sum_sub_le (F := fun c => s c + 1) (l := [c]) (m := nms B) (by simp) (fun x hx => by simp at hx; subst hx; exact hc)
  unfold wS
  simpa using this
theorem ls_le (h : BOk B L) : ((lo B c).map fun z => s z + 1).sum ≤ wS B s := sum_sub_le (pw_nodup (lo_asc h c)) fun x hx => low_in h hx
theorem us_le (h : BOk B L) : ((up B c).map fun z => s z + 1).sum ≤ wS B s := sum_sub_le (pw_nodup (up_asc h c)) fun x hx => up_in hx
theorem lsum_s (h : BOk B L) (hs : ∀ c ∈ nms B, sz (s c) (v c)) (hf : sz sf f) : sz (((lo B c).map fun z => s z + 1).sum + sf) (lsum v f (lo B c)) := by
  unfold lsum
  have f0 := TB.sz_pos hf
  by_cases e : lo B c = []
  · rw [if_pos e]; exact hf.mono (by omega)
  · rw [if_neg e]
    exact (sum_s fun z hz => hs z (low_in h hz)).mono (by omega)
theorem usum_s (P : Pos B v f g) (hs : ∀ c ∈ nms B, sz (s c) (v c)) (hg : sz sg g) : sz (((up B c).map fun z => s z + 1).sum + sg) (usum v g (up B c)) := by
  unfold usum
  have g0 := TB.sz_pos hg
  by_cases e : up B c = []
  · rw [if_pos e]; exact (sz_inv P.ce hg).mono (by omega)
  · rw [if_neg e]
    exact (sum_s (F := fun u => (v u)⁻¹) fun z hz => sz_inv (P.nm (up_in hz)) (hs z (up_in hz))).mono (by omega)
theorem sl_take (O : So) (xs : List Va) (j : Nat) : slV O (.tup xs) none (some (j : Int)) = some (.tup (xs.take j)) := by
  show some (Va.tup (cut xs none (some (j : Int)))) = _
  unfold cut
  have h1 : HT.sIx xs.length 0 none = 0 := rfl
  have h2 : HT.sIx xs.length xs.length (some (j : Int)) = min j xs.length := HT.sIx_nat xs.length xs.length j
  rw [h1, h2, List.drop_zero, Nat.sub_zero]
  congr 2
  by_cases hj : j ≤ xs.length
  · rw [Nat.min_eq_left hj]
  · rw [Nat.min_eq_right (by omega), List.take_of_length_le (Nat.le_refl _), List.take_of_length_le (by omega)]
theorem sl_drop (O : So) (xs : List Va) (j : Nat) : slV O (.tup xs) (some (j : Int)) none = some (.tup (xs.drop j)) := by
  show some (Va.tup (cut xs (some (j : Int)) none)) = _
  unfold cut
  have h1 : HT.sIx xs.length 0 (some (j : Int)) = min j xs.length := HT.sIx_nat xs.length 0 j
  have h2 : HT.sIx xs.length xs.length none = xs.length := rfl
  rw [h1, h2]
  congr 2
  by_cases hj : j ≤ xs.length
  · rw [Nat.min_eq_left hj]; exact List.take_of_length_le (by simp)
  · rw [Nat.min_eq_right (by omega), List.drop_eq_nil_of_le (Nat.le_refl _), List.drop_eq_nil_of_le (by omega)]; simp
theorem add_tup (O : So) {xs ys : List Va} (h : xs.length + ys.length ≤ sizeLine) : addV O (.tup xs) (.tup ys) = some (.tup (xs ++ ys)) := by simp [addV, h]
theorem set_split {α : Type} (xs : List α) (j : Nat) (hj : j < xs.length) (x : α) : xs.take j ++ [x] ++ xs.drop (j + 1) = xs.set j x := by
  rw [List.set_eq_take_append_cons_drop, if_pos hj]
  simp
theorem lab_set (nd : (nms B).Nodup) {j : Nat} {p : Str × List Str} (h : B[j]? = some p) (x : Rat) : (B.map fun q => fq (v q.1)).set j (fq x) = B.map fun q => fq (set1 v p.1 x q.1) := by
  apply List.ext_getElem?
  intro k
  rw [List.getElem?_set, List.getElem?_map, List.getElem?_map]
  have hjl := (List.getElem?_eq_some_iff.mp h).1
  split
  · rename_i e
    subst e
    rw [h, if_pos (by simpa using hjl)]
    simp [set_same]
  · rename_i e
    cases hk : B[k]? with
    | none => rfl
    | some q =>
      have : q.1 ≠ p.1 := fun e2 => by
        have h1 : (nms B)[k]? = some q.1 := by unfold nms; rw [List.getElem?_map, hk]; rfl
        have h2 : (nms B)[j]? = some q.1 := by unfold nms; rw [List.getElem?_map, h, e2]; rfl
        exact e (get_inj nd h2 h1)
      simp [set_ne _ _ this]
theorem ltog_ok (h : BOk B L) (P : Pos B v f g) (hc : c ∈ nms B) (hs : ∀ c ∈ nms B, sz (s c) (v c)) (hw : wS B s ≤ 4000) (hf : sz sf f) (hg : sz sg g) (h1 : sf ≤ 100) (h2 : sg ≤ 100) :
    Pu f__law_toggled [bdV B, labV B v, .str c, bnV f g] (labV B (set1 v c (tg B v f g c))) := fun O => by
  obtain ⟨p, hp, rfl⟩ := mem_nms hc
  obtain ⟨j, hj⟩ := List.mem_iff_getElem?.mp hp
  have hjl := (List.getElem?_eq_some_iff.mp hj).1
  have h36 := h.small
  have sl : 1000 ≤ sizeLine := by decide
  have big : ∀ d ∈ nms B, sz 4000 (v d) := fun d hd => (hs d hd).mono (by have := s_le (s := s) h.nd hd; omega)
  -- places
  have hpl : ∀ O, dictV O [.lst ((List.range B.length).map fun i => .tup [.str (nmF (nms B) i), nV i])] = some (.dct (dP B)) := fun O => by
    have k1 : pairsIn ((List.range B.length).map fun i => .tup [.str (nmF (nms B) i), nV i]) = some (dP B) := by
      rw [pairsIn_map (f := nmF (nms B)) (g := nV), dP_eq]
    have k2 := mrg_nodup (dP B) [] (by
      unfold dP
      rw [List.nil_append, keys_dI]
      exact List.pairwise_map.mpr (h.nd.imp fun h e => h (by injection e)))
    simp [dictV, asQ, k1, k2]
  have hix : ∀ O, ∀ d ∈ nms B, ∃ k : Nat, ixV O (.dct (dP B)) (.str d) = some (nV k) ∧ ixV O (labV B v) (nV k) = some (fq (v d)) := fun O d hd => by
    obtain ⟨q, hq, rfl⟩ := mem_nms hd
    obtain ⟨k, hk⟩ := List.mem_iff_getElem?.mp hq
    refine ⟨k, ix_dct _ _ _ _ (lk_dP h.nd hk), ?_⟩
    have e : atI (B.map fun p => fq (v p.1)) (k : Int) = some (fq (v q.1)) := atI_nat (by rw [List.getElem?_map, hk]; rfl)
    simp only [labV, ixV, asD, nV, asQ, e]
  have hloop : ∀ O, lcL (gN 11) tYs (mTup (aCons (mOp ixV (mOp ixV (mVar 0) (mVar 11)) (mC (.int 0))) (aCons (mVar 11) aNil))) [some (bdV B), some (labV B v), some (.str p.1), some (bnV f g), none, none, none, none, none, none, none, none] ((List.range B.length).map nV) [] O = some ((List.range B.length).map fun i => .tup [.str (nmF (nms B) i), nV i], O) := fun O =>
    lcL_map (h := nV) (r := fun i => .tup [.str (nmF (nms B) i), nV i]) (List.range B.length) [] fun i hi => by
      have hi : i < B.length := List.mem_range.mp hi
      have hB : B[i]? = some B[i] := List.getElem?_eq_getElem hi
      have hn : nmF (nms B) i = B[i].1 := by
        have : (nms B)[i]? = some B[i].1 := by unfold nms; rw [List.getElem?_map, hB]; rfl
        simp [nmF, this]
      refine ⟨_, rfl, rfl, r_tup (r_cons (r_op (r_op (by walk_at "tv go") (by walk_at "tv go") (x := bdV B) (y := nV i) (v := itV B[i]) (ix_get (by rw [List.getElem?_map, hB]; rfl))) (by walk_at "tv go") ?_) (by walk_at "tv go")) (by exact sl_2)⟩
      rw [hn]
      exact ix_t0 _ _ _
  have hbl : ∀ O (x : Option Va) (l : List Str), (∀ d ∈ l, d ∈ nms B) → lcL (gN 8) tYs (mOp ixV (mVar 1) (mOp ixV (mVar 4) (mVar 8))) [some (bdV B), some (labV B v), some (.str p.1), some (bnV f g), some (.dct (dP B)), x, none, none, none, none, none, none] (l.map Va.str) [] O = some ((l.map v).map fq, O) := fun O x l hl => by
    have := lcL_map (g := gN 8) (t := tYs) (e := mOp ixV (mVar 1) (mOp ixV (mVar 4) (mVar 8))) (Γ := [some (bdV B), some (labV B v), some (.str p.1), some (bnV f g), some (.dct (dP B)), x, none, none, none, none, none, none]) (O := O) (h := Va.str) (r := fun d => fq (v d)) l [] fun d hd => by
      obtain ⟨k, k1, k2⟩ := hix O d (hl d hd)
      exact ⟨_, rfl, rfl, r_op (by walk_at "tv go") (r_op (by walk_at "tv go") (by walk_at "tv go") k1) k2⟩
    rw [List.nil_append] at this
    rw [List.map_map]
    exact this
  have lol : (lo B p.1).length ≤ 36 := by have := lo_len h hc; omega
  have upl' : (up B p.1).length ≤ 36 := by have := up_len (B := B) p.1; omega
  -- the sum below
  have htot : ∃ Γ8 : Option Va, ∀ (x6 : Option Va), (∃ q : Rat, (mIf (mB (mOp eqV (mVar 5) (mLst aNil))) (mOp ixV (mVar 3) (mC (.int 0))) (mOp ixV (mVar 5) (mC (.int 0)))) [some (bdV B), some (labV B v), some (.str p.1), some (bnV f g), some (.dct (dP B)), some (.lst (((lo B p.1).map v).map fq)), x6, none, none, none, none, none] O = some (fq q, O) ∧
      sFor (mIt (mSl (mVar 5) (mSome (mC (.int 1))) mNone)) (gN 8) l__law_toggled_1 [some (bdV B), some (labV B v), some (.str p.1), some (bnV f g), some (.dct (dP B)), some (.lst (((lo B p.1).map v).map fq)), x6, some (fq q), none, none, none, none] O = some (.nx [some (bdV B), some (labV B v), some (.str p.1), some (bnV f g), some (.dct (dP B)), some (.lst (((lo B p.1).map v).map fq)), x6, some (fq (lsum v f (lo B p.1))), Γ8, none, none, none], O)) := by
    cases hlo : lo B p.1 with
    | nil =>
      refine ⟨none, fun x6 => ⟨f, r_if1 (r_b (r_op (by walk_at "tv go") (by walk_at "tv go") (by rw [eq_nilq]; rfl))) (by walk_at "tv go"), ?_⟩⟩
      exact r_for (r_it (r_sl (by walk_at "tv go") (r_some (by walk_at "tv go")) (by walk_at "tv go") rfl) rfl) rfl
    | cons d t =>
      have hin : ∀ z ∈ d :: t, z ∈ nms B := fun z hz => low_in h (by rw [hlo]; exact hz)
      have hz : ∀ q ∈ (d :: t).map v, sz 4000 q := fun q hq => by
        obtain ⟨z, hz, rfl⟩ := List.mem_map.mp hq
        exact big z (hin z hz)
      have hq0 : ∀ q ∈ (d :: t).map v, 0 < q := fun q hq => by
        obtain ⟨z, hz, rfl⟩ := List.mem_map.mp hq
        exact P.nm (hin z hz)
      have ltl : t.length ≤ 36 := by rw [hlo] at lol; simp at lol; omega
      have key : ∀ (t' : List Str) (k : Nat) (x8 : Option Va) (x6 : Option Va), (d :: t).drop (k + 1) = t' → k + t'.length = t.length → ∃ y8, forL (gN 8) l__law_toggled_1 ((t'.map v).map fq) [some (bdV B), some (labV B v), some (.str p.1), some (bnV f g), some (.dct (dP B)), some (.lst (((d :: t).map v).map fq)), x6, some (fq (((d :: t).map v).take (k + 1)).sum), x8, none, none, none] O =
          some (.nx [some (bdV B), some (labV B v), some (.str p.1), some (bnV f g), some (.dct (dP B)), some (.lst (((d :: t).map v).map fq)), x6, some (fq ((d :: t).map v).sum), y8, none, none, none], O) ∧ y8 = (if t' = [] then x8 else some (fq (v (t'.getLast?.getD d)))) := by
        intro t'
        induction t' with
        | nil =>
          intro k x8 x6 _ hk
          refine ⟨x8, ?_, by simp⟩
          rw [List.take_of_length_le (by simp at hk ⊢; omega)]
          rfl
        | cons e t' ih =>
          intro k x8 x6 hd hk
          have he : (d :: t)[k + 1]? = some e := by
            have := congrArg (fun l => l[0]?) hd
            simpa using this
          have hev : ((d :: t).map v)[k + 1]? = some (v e) := by rw [List.getElem?_map, he]; rfl
          have hem : e ∈ d :: t := List.mem_of_getElem? he
          have hpos : 0 < (((d :: t).map v).take (k + 1)).sum := sum_pos (fun z hz => hq0 z (List.mem_of_mem_take hz)) (by simp)
          have ha := add_ok hpos (P.nm (hin e hem)) (take_sz (i := k + 1) hz (by simp at hk; omega)) (big e (hin e hem)) (by omega) (by omega) O
          rw [← sum_take_succ hev] at ha
          obtain ⟨y8, i1, i2⟩ := ih (k + 1) (some (fq (v e))) x6 (by rw [List.drop_succ_cons] at hd ⊢; rw [← List.drop_drop, hd]; rfl) (by simp at hk ⊢; omega)
          refine ⟨y8, ?_, ?_⟩
          · rw [List.map_cons, List.map_cons, forL_cons (Γ1 := [some (bdV B), some (labV B v), some (.str p.1), some (bnV f g), some (.dct (dP B)), some (.lst (((d :: t).map v).map fq)), x6, some (fq (((d :: t).map v).take (k + 1)).sum), some (fq (v e)), none, none, none]) (Γ2 := [some (bdV B), some (labV B v), some (.str p.1), some (bnV f g), some (.dct (dP B)), some (.lst (((d :: t).map v).map fq)), x6, some (fq (((d :: t).map v).take (k + 1 + 1)).sum), some (fq (v e)), none, none, none]) (O2 := O) rfl ?_]
            · exact i1
            · unfold l__law_toggled_1
              exact r_asgN (r_call0 (by walk_at "tv go") ha)
          · rw [i2]
            cases t' with
            | nil => simp
            | cons a b => simp
      refine ⟨if t = [] then none else some (fq (v (t.getLast?.getD d))), fun x6 => ⟨v d, r_if0 (r_b (r_op (by walk_at "tv go") (by walk_at "tv go") (by rw [eq_nilq]; simp))) (r_op (by walk_at "tv go") (by walk_at "tv go") (ix_l0 _ _ _)), ?_⟩⟩
      obtain ⟨y8, i1, i2⟩ := key t 0 none x6 (by simp) (by simp)
      have e0 : (((d :: t).map v).take (0 + 1)).sum = v d := by simp [Rat.add_zero]
      rw [e0] at i1
      refine r_for (r_it (r_sl (by walk_at "tv go") (r_some (by walk_at "tv go")) (by walk_at "tv go") (sl_drop1 _ _ _ _)) rfl) ?_
      rw [i1, i2]
      simp [lsum]
  obtain ⟨y8, htot⟩ := htot
  obtain ⟨q0, t1, t2⟩ := htot (some (.lst (((up B p.1).map v).map fq)))
  -- the sum above
  have ul : ∀ z ∈ up B p.1, z ∈ nms B := fun z hz => up_in hz
  have hfar : mCall f_parallel_sum [] (aCons (mIf (mB (mOp neV (mVar 6) (mLst aNil))) (mVar 6) (mLst (aCons (mOp ixV (mVar 3) (mC (.int 1))) aNil))) aNil) [some (bdV B), some (labV B v), some (.str p.1), some (bnV f g), some (.dct (dP B)), some (.lst (((lo B p.1).map v).map fq)), some (.lst (((up B p.1).map v).map fq)), some (fq (lsum v f (lo B p.1))), y8, none, none, none] O = some (fq (usum v g (up B p.1))⁻¹, O) := by
    rw [usum_eq]
    by_cases e : up B p.1 = []
    · have hps := parallel_sum_ok (qs := [g]) (n := sg) (by simp) (fun q hq => by simp at hq; subst hq; exact P.ce) (fun q hq => by simp at hq; subst hq; exact hg) (by omega) (by simp) O
      have e2 : upl v g (up B p.1) = [g] := by unfold upl; rw [if_pos e]
      rw [e2]
      exact r_call0 (r_cons (r_if0 (r_b (r_op (by walk_at "tv go") (by walk_at "tv go") (by rw [ne_nilq, e]; rfl))) (r_lst (r_cons (r_op (by walk_at "tv go") (by walk_at "tv go") (ix_t1 _ _ _ _)) (by walk_at "tv go")) (by exact sl_1))) (by walk_at "tv go")) hps
    · have hps := parallel_sum_ok (qs := (up B p.1).map v) (n := 4000) (by simpa using e) (fun q hq => by
        obtain ⟨z, hz, rfl⟩ := List.mem_map.mp hq
        exact P.nm (ul z hz)) (fun q hq => by
        obtain ⟨z, hz, rfl⟩ := List.mem_map.mp hq
        exact big z (ul z hz)) (by omega) (by rw [List.length_map]; omega) O
      have e2 : upl v g (up B p.1) = (up B p.1).map v := by unfold upl; rw [if_neg e]
      rw [e2]
      exact r_call0 (r_cons (r_if1 (r_b (r_op (by walk_at "tv go") (by walk_at "tv go") (by rw [ne_nilq]; simp [e]))) (by walk_at "tv go")) (by walk_at "tv go")) hps
  have l0 := lsum_pos P fun z hz => low_in h hz (c := p.1)
  have u0 := usum_pos P ul
  have hls := (lsum_s (c := p.1) h hs hf).mono (show _ ≤ 4100 by have := ls_le (s := s) (c := p.1) h; omega)
  have hus := (usum_s (c := p.1) P hs hg).mono (show _ ≤ 4100 by have := us_le (s := s) (c := p.1) h; omega)
  have hui := sz_inv u0 hus
  have hmul := multiply_ok l0 (Rat.inv_pos.mpr u0) hls hui (by omega) (by omega) O
  have hdiv := divide_ok (Rat.mul_pos l0 (Rat.inv_pos.mpr u0)) (P.nm hc) (sz_mul hls hui) (big p.1 hc) (by omega) (by omega) O
  obtain ⟨j', k1, k2⟩ := hix O p.1 hc
  have ej : j' = j := by
    have := ix_dct O _ _ _ (lk_dP h.nd hj)
    rw [this] at k1
    have := Va.int.inj (Option.some.inj k1)
    omega
  subst ej
  unfold f__law_toggled b__law_toggled
  refine r_fn0 rfl (r_seq (r_asgN (r_cb (r_cons (r_lc (r_x (r_cons (r_cb (by walk_at "tv go") (len_bd O)) (by walk_at "tv go")) (rng_ok B.length (by omega))) (by rw [List.length_map, List.length_range]; omega) (hloop O)) (by walk_at "tv go")) (hpl O)))
    (r_seq (r_asgN (r_lc (r_it (r_call0 (by walk_at "tv go") (lower_covers_ok h hc O)) rfl) (by rw [List.length_map]; omega) (hbl O none _ fun z hz => low_in h hz)))
    (r_seq (r_asgN (r_lc (r_it (r_call0 (by walk_at "tv go") (upper_covers_ok h hc O)) rfl) (by rw [List.length_map]; omega) (hbl O _ _ ul)))
    (r_seq (r_asgN t1) (r_seq t2 (r_seq (r_asgN hfar) (r_seq (r_asgN (r_op (by walk_at "tv go") (by walk_at "tv go") k1)) (r_ret ?_))))))))
  refine r_op (r_op (r_sl (by walk_at "tv go") (by walk_at "tv go") (r_some (by walk_at "tv go")) (sl_take O _ _)) (r_tup (r_cons (r_call0 (r_cons (r_call0 (by walk_at "tv go") hmul) (r_cons (r_op (by walk_at "tv go") (by walk_at "tv go") k2) (by walk_at "tv go"))) hdiv) (by walk_at "tv go")) (by exact sl_1)) (add_tup O (by simp; omega))) (r_sl (by walk_at "tv go") (r_some (r_op (by walk_at "tv go") (by walk_at "tv go") (v := .int ((j' + 1 : Nat) : Int)) rfl)) (by walk_at "tv go") (sl_drop O _ _)) ?_
  rw [add_tup O (by simp; omega), set_split _ _ (by simpa using hjl)]
  show some (Va.tup ((B.map fun q => fq (v q.1)).set j' (fq (tg B v f g p.1)))) = _
  rw [lab_set h.nd hj]
  rfl
end
end TV
end
-- N5
section
set_option Elab.async false
set_option linter.all false
set_option maxRecDepth 100000
set_option maxHeartbeats 2000000
set_option exponentiation.threshold 500000
namespace TV
open PySem L2
open TB (lk pt)
/-! N5: edge sums with large parts. -/
section
open TB (sz sz_div sz_add sz_mul sz_inv num_pos den_pos)
variable {B : Bd} {L : Str → Str → Prop}
theorem edge_sum_big {v : Str → Rat} {f g : Rat} {n : Nat} (h : BOk B L) (P : Pos B v f g) (hv : ∀ q ∈ B, sz n (v q.1)) (hf : sz n f) (hg : sz n g) (hn : 4 * n ≤ 9000) (hk : (2 * n + 1) * ((nbs B v f g).length + 1) + 1 ≤ 400000) : Pu f_edge_sum [bdV B, labV B v, bnV f g] (fq (es B v f g)) := fun O => by
  have hp := nbs_in h (Q := fun q => 0 < q) P.lab P.fl P.ce
  have hs := nbs_in h (Q := fun q => sz n q) hv hf hg
  obtain ⟨p0, ps, e0⟩ := List.exists_cons_of_ne_nil (nbs_ne (B := B) (v := v) (f := f) (g := g))
  have hes : es B v f g = ed p0 + (ps.map ed).sum := by unfold es; rw [e0]; rfl
  have hlen : (nbs B v f g).length = ps.length + 1 := by rw [e0]; rfl
  rw [hlen] at hk
  have edp : ∀ p ∈ nbs B v f g, 0 < ed p ∧ sz (2 * n) (ed p) := fun p hm => ⟨Rat.mul_pos (hp p hm).1 (Rat.inv_pos.mpr (hp p hm).2), (sz_mul (hs p hm).1 (sz_inv (hp p hm).2 (hs p hm).2)).mono (by omega)⟩
  have e1 : (2 * n + 1) * (ps.length + 1 + 1) = (2 * n + 1) * ps.length + 2 * (2 * n + 1) := by rw [Nat.mul_succ, Nat.mul_succ]; omega
  rw [e1] at hk
  have sl : ps.length + 1 ≤ sizeLine := by
    have h1 : 400000 ≤ sizeLine := by decide
    have h2 : 1 * ps.length ≤ (2 * n + 1) * ps.length := Nat.mul_le_mul_right _ (by omega)
    omega
  have hm0 : p0 ∈ nbs B v f g := by rw [e0]; exact List.mem_cons_self
  have hms : ∀ p ∈ ps, p ∈ nbs B v f g := fun p hp => by rw [e0]; exact List.mem_cons_of_mem _ hp
  have hparts : lcL (gT (gCs (gN 6) (gCs (gN 7) gNl))) tYs (mCall f_product_of_two [] (aCons (mVar 6) (aCons (mCall f_reciprocal [] (aCons (mVar 7) aNil)) aNil))) [some (bdV B), some (labV B v), some (bnV f g), none, none, none, none, none] ((nbs B v f g).map prV) [] O = some ([] ++ (nbs B v f g).map fun p => fq (ed p), O) :=
    lcL_map (h := prV) (r := fun p => fq (ed p)) _ [] fun p hm => ⟨_, rfl, rfl, r_call0 (r_cons (by walk_at "tv go") (r_cons (r_call0 (by walk_at "tv go") (reciprocal_ok (hp p hm).2 O)) (by walk_at "tv go"))) (product_of_two_big (Rat.le_of_lt (hp p hm).1) (Rat.inv_pos.mpr (hp p hm).2) (hs p hm).1 (sz_inv (hp p hm).2 (hs p hm).2) (by omega) (by omega) O)⟩
  rw [List.nil_append] at hparts
  obtain ⟨Γ', O', hfo, x, rfl, rfl⟩ := for_inv (g := gN 5) (h := fun p => fq (ed p)) (b := l_edge_sum_1) (xs := ps) (Γ := [some (bdV B), some (labV B v), some (bnV f g), some (.lst ((nbs B v f g).map fun p => fq (ed p))), some (fq (ed p0)), none, none, none]) (O := O)
    (fun i Γ O' => ∃ x : Option Va, Γ = [some (bdV B), some (labV B v), some (bnV f g), some (.lst ((nbs B v f g).map fun p => fq (ed p))), some (fq (ed p0 + ((ps.take i).map ed).sum)), x, none, none] ∧ O' = O) ⟨none, by simp [Rat.add_zero], rfl⟩ (by
      rintro i p Γ O' hi ⟨x, rfl, rfl⟩
      have hm : p ∈ ps := List.mem_of_getElem? hi
      have hil := (List.getElem?_eq_some_iff.mp hi).1
      have et : ((ps.take (i + 1)).map ed).sum = ((ps.take i).map ed).sum + ed p := by
        rw [List.take_add_one, hi, Option.toList_some, List.map_append]
        exact sum_snoc _ _
      have s1 : sz ((2 * n + 1) * i + 1) ((ps.take i).map ed).sum := (sum_sz (n := 2 * n) (qs := (ps.take i).map ed) fun z hz => by
        obtain ⟨y, hy, rfl⟩ := List.mem_map.mp hz
        exact (edp y (hms y (List.mem_of_mem_take hy))).2).mono (by rw [List.length_map, List.length_take]; exact Nat.add_le_add_right (Nat.mul_le_mul_left _ (Nat.min_le_left _ _)) _)
      have s2 := sz_add (edp p0 hm0).2 s1
      have hbd : 2 * n + ((2 * n + 1) * i + 1) + 1 ≤ 400000 := by
        have : (2 * n + 1) * (i + 1) ≤ (2 * n + 1) * ps.length := Nat.mul_le_mul_left _ hil
        rw [Nat.mul_succ] at this
        omega
      have nn : 0 ≤ ed p0 + ((ps.take i).map ed).sum := by
        have h1 := (edp p0 hm0).1
        have h2 := sum_nn (qs := (ps.take i).map ed) fun z hz => by
          obtain ⟨y, hy, rfl⟩ := List.mem_map.mp hz
          exact Rat.le_of_lt (edp y (hms y (List.mem_of_mem_take hy))).1
        grind
      refine ⟨_, [some (bdV B), some (labV B v), some (bnV f g), some (.lst ((nbs B v f g).map fun p => fq (ed p))), some (fq (ed p0 + ((ps.take (i + 1)).map ed).sum)), some (fq (ed p)), none, none], O', rfl, ?_, some (fq (ed p)), rfl, rfl⟩
      unfold l_edge_sum_1
      have := sum_of_two_big nn (Rat.le_of_lt (edp p (hms p hm)).1) s2 (edp p (hms p hm)).2 hbd (by omega) O'
      rw [Rat.add_assoc, ← et] at this
      exact r_asgN (r_call0 (by walk_at "tv go") this))
  rw [List.take_length] at hfo
  have hsl : ∀ O', slV O' (.lst ((nbs B v f g).map fun p => fq (ed p))) (some 1) none = some (.lst (ps.map fun p => fq (ed p))) := fun O' => by
    show (some ((nbs B v f g).map fun p => fq (ed p))).map (fun vs => Va.lst (cut vs (some 1) none)) = _
    rw [Option.map_some, cut1, e0]
    rfl
  unfold f_edge_sum b_edge_sum
  rw [hes]
  exact r_fn0 rfl (r_seq (r_drop (r_call0 (by walk_at "tv go") (check_labels_ok h P.lab O'))) (r_seq (r_drop (r_call0 (by walk_at "tv go") (check_bounds_ok P.fl P.ce O'))) (r_seq (r_asgN (r_lc (r_it (r_call0 (by walk_at "tv go") (neighbour_labels_ok h O')) rfl) (by rw [List.length_map, hlen]; exact sl) hparts)) (r_seq (r_asgN (r_op (by walk_at "tv go") (by walk_at "tv go") (v := fq (ed p0)) (by rw [e0]; exact ix_l0 _ _ _))) (r_seq (r_for (r_it (r_sl (by walk_at "tv go") (by walk_at "tv go") (by walk_at "tv go") (hsl _)) rfl) hfo) (r_ret (by walk_at "tv go")))))))
end
end TV
end
-- N6
section
set_option Elab.async false
set_option linter.all false
set_option maxRecDepth 100000
set_option maxHeartbeats 2000000
set_option exponentiation.threshold 500000
namespace TV
open PySem L2
open TB (lk pt)
/-! N6: names of cells. -/
section
theorem ZO_last {A : So} {s : Sst} {N : So} {x : Ob} : (ZO A s (N ++ [x]))[(ZO A s N).length]? = some x := by rw [← ZO_app]; exact st_last
theorem ZO_setlast {A : So} {s : Sst} {N : So} {x y : Ob} : (ZO A s (N ++ [x])).set (ZO A s N).length y = ZO A s (N ++ [y]) := by rw [← ZO_app, ← ZO_app]; simp [List.set_append]
theorem gc_ZO {A N M : So} {s s' : Sst} {r : Va} (h : below (ZO A s N).length r = true) : gc (ZO A s N) r (ZO A s' N ++ M) = ZO A s' N := by
  unfold gc
  rw [if_pos]
  · rw [ZO_len A s s' N, List.take_left]
  · refine ⟨h, fun k hk => ?_⟩
    by_cases e : k = A.length
    · subst e
      refine Or.inr ⟨.lst s'.V, ?_, rfl⟩
      rw [List.getElem?_append_left (by rw [ZO_len A s' s N]; exact hk), ZO_get]
    · refine Or.inl ?_
      rw [List.getElem?_append_left (by rw [ZO_len A s' s N]; exact hk)]
      unfold ZO
      by_cases hl : k < A.length
      · rw [List.getElem?_append_left hl, List.getElem?_append_left hl]
      · rw [List.getElem?_append_right (by omega), List.getElem?_append_right (by omega)]
        obtain ⟨j, hj⟩ : ∃ j, k - A.length = j + 1 := ⟨k - A.length - 1, by omega⟩
        rw [hj, List.getElem?_cons_succ, List.getElem?_cons_succ]
def strN (i : Nat) : Str := ((toString (i : Int) : String) : Str)
theorem strN_ok : ∀ i : Nat, i < 1000 → ((strN i).cps.toList.length ≤ 3 ∧ (strN i).length ≤ 3) ∧ (strN i).cps.toList.all (fun d => decide (d ∈ signs)) = true := by decide +kernel
theorem strN_inj : ∀ i : Nat, i < 20 → ∀ j : Nat, j < 20 → (strN (100 + i)).cps.toList = (strN (100 + j)).cps.toList → i = j := by decide +kernel
theorem strV_ok (O : So) (i : Nat) (h : i < 1000) : strV O [.int (i : Int)] = some (.str (strN i)) := by
  have : (i : Int).natAbs.log2 < 1920 := by
    rw [Int.natAbs_natCast]
    by_cases h0 : i = 0
    · subst h0; decide
    · exact (Nat.log2_lt h0).mpr (Nat.lt_of_lt_of_le h (Nat.le_trans (show 1000 ≤ 2 ^ 10 by decide) (Nat.pow_le_pow_right (by decide) (by decide))))
  simp only [strV, this, if_true]
  rfl
def sgN (a t : Int) (k : Nat) : Str := ⟨#[97 + ((a + t * (k : Int)) % 26).toNat]⟩
def ltN (a : Int) : Str := ⟨#[97 + a.toNat]⟩
def nmN (a t : Int) (st w : Nat) (k : Nat) : Str := if w = 0 then sgN a t k else if w = 1 then sgN a t k ++ strN ((st + 37 * k) % 1000) else ltN a ++ "zz9a" ++ strN (100 + k)
theorem app_cps (x y : Str) : (x ++ y).cps.toList = x.cps.toList ++ y.cps.toList := by
  show (x.cps ++ y.cps).toList = _
  simp
theorem zz_signs : ∀ d ∈ ("zz9a" : Str).cps.toList, d ∈ signs := by decide +kernel
theorem nmN_cell {a t : Int} {st w k : Nat} (ha : 0 ≤ a ∧ a < 26) (hk : k < 800) : cellOk (nmN a t st w k) := by
  have k0 : 0 ≤ (a + t * (k : Int)) % 26 := Int.emod_nonneg _ (by decide)
  have k1 : (a + t * (k : Int)) % 26 < 26 := Int.emod_lt_of_pos _ (by decide)
  unfold nmN
  by_cases h0 : w = 0
  · rw [if_pos h0]
    refine ⟨97 + ((a + t * (k : Int)) % 26).toNat, [], rfl, by simp, letter_in (by omega), fun d hd => ?_⟩
    simp at hd
    subst hd
    exact letters_signs _ (letter_in (by omega))
  · rw [if_neg h0]
    by_cases h1 : w = 1
    · rw [if_pos h1]
      obtain ⟨⟨l1, _⟩, l2⟩ := strN_ok ((st + 37 * k) % 1000) (Nat.mod_lt _ (by decide))
      refine ⟨97 + ((a + t * (k : Int)) % 26).toNat, (strN ((st + 37 * k) % 1000)).cps.toList, by rw [app_cps]; rfl, by omega, letter_in (by omega), fun d hd => ?_⟩
      rcases List.mem_cons.mp hd with rfl | hd
      · exact letters_signs _ (letter_in (by omega))
      · exact of_decide_eq_true (List.all_eq_true.mp l2 d hd)
    · rw [if_neg h1]
      obtain ⟨⟨l1, _⟩, l2⟩ := strN_ok (100 + k) (by omega)
      refine ⟨97 + a.toNat, ("zz9a" : Str).cps.toList ++ (strN (100 + k)).cps.toList, by rw [app_cps, app_cps, List.append_assoc]; rfl, ?_, letter_in (by omega), fun d hd => ?_⟩
      · rw [List.length_append]
        have : ("zz9a" : Str).cps.toList.length = 4 := by decide +kernel
        omega
      · rcases List.mem_cons.mp hd with rfl | hd
        · exact letters_signs _ (letter_in (by omega))
        · rcases List.mem_append.mp hd with hd | hd
          · exact zz_signs d hd
          · exact of_decide_eq_true (List.all_eq_true.mp l2 d hd)
theorem nmN_inj {a t : Int} {st w i j : Nat} (ht : t = 1 ∨ t = 3 ∨ t = 5 ∨ t = 7) (hi : i < 20) (hj : j < 20) (e : nmN a t st w i = nmN a t st w j) : i = j := by
  have e := congrArg (fun x : Str => x.cps.toList) e
  have sg : 97 + ((a + t * (i : Int)) % 26).toNat = 97 + ((a + t * (j : Int)) % 26).toNat → i = j := fun e => by
    have k0 : 0 ≤ (a + t * (i : Int)) % 26 := Int.emod_nonneg _ (by decide)
    have k1 : 0 ≤ (a + t * (j : Int)) % 26 := Int.emod_nonneg _ (by decide)
    have := step_inj (a := a) (t := t) (i := (i : Int)) (j := (j : Int)) (by omega) (by omega) (by omega) (by omega)
    omega
  unfold nmN at e
  by_cases h0 : w = 0
  · simp only [if_pos h0] at e
    exact sg (by simpa [sgN] using e)
  · simp only [if_neg h0] at e
    by_cases h1 : w = 1
    · simp only [if_pos h1, app_cps] at e
      have := congrArg List.head? e
      exact sg (by simpa [sgN] using this)
    · simp only [if_neg h1, app_cps, List.append_assoc] at e
      exact strN_inj i hi j hj (List.append_cancel_left (List.append_cancel_left e))
theorem step4 (O : So) {k : Int} (h0 : 0 ≤ k) (h1 : k < 4) : ∃ t : Int, (t = 1 ∨ t = 3 ∨ t = 5 ∨ t = 7) ∧ ixV O (.lst [.int 1, .int 3, .int 5, .int 7]) (.int k) = some (.int t) := by
  have : k = 0 ∨ k = 1 ∨ k = 2 ∨ k = 3 := by omega
  rcases this with rfl | rfl | rfl | rfl
  · exact ⟨1, Or.inl rfl, rfl⟩
  · exact ⟨3, Or.inr (Or.inl rfl), rfl⟩
  · exact ⟨5, Or.inr (Or.inr (Or.inl rfl)), rfl⟩
  · exact ⟨7, Or.inr (Or.inr (Or.inr rfl)), rfl⟩
theorem add_str (O : So) {x y : Str} (h : x.length + y.length ≤ 100) : addV O (.str x) (.str y) = some (.str (x ++ y)) := by
  have : 100 ≤ sizeLine := by decide
  simp only [addV, show x.length + y.length ≤ sizeLine by omega, if_true]
theorem cells_ok (A N : So) (s : Sst) (b : Int) (size : Nat) (h : Bd2 s b) (hb : b ≤ 700000) (hz : size ≤ 20) : ∃ (nm : List Str) (s' : Sst), nm.length = size ∧ (∀ x ∈ nm, cellOk x) ∧ nm.Nodup ∧ Bd2 s' (b + 4) ∧ f__law_cells [.ref A.length, .int size] (ZO A s N) = some (.lst (nm.map Va.str), ZO A s' N) := by
  obtain ⟨a, s1, a0, a1, h1, d1⟩ := draw_okS A N s b 26 h (by omega) (by decide) (by decide)
  obtain ⟨x, s2, x0, x1, h2, d2⟩ := draw_okS A N s1 (b + 1) 4 h1 (by omega) (by decide) (by decide)
  obtain ⟨t, ht, hix⟩ := step4 (ZO A s2 N) x0 x1
  obtain ⟨w, s3, w0, w1, h3, d3⟩ := draw_okS A N s2 (b + 1 + 1) 3 h2 (by omega) (by decide) (by decide)
  obtain ⟨u, s4, u0, u1, h4, d4⟩ := draw_okS A N s3 (b + 1 + 1 + 1) 900 h3 (by omega) (by decide) (by decide)
  obtain ⟨wn, rfl⟩ : ∃ k : Nat, w = (k : Int) := ⟨w.toNat, by omega⟩
  obtain ⟨un, rfl⟩ : ∃ k : Nat, u = (k : Int) := ⟨u.toNat, by omega⟩
  obtain ⟨Γ', O', hf, x5, x9, e1, e2⟩ := for_inv (g := gN 5) (h := nV) (b := l__law_cells_1) (xs := List.range size) (Γ := [some (.ref A.length), some (.int size), some (.str "abcdefghijklmnopqrstuvwxyz"), some (.int un), some (.ref (ZO A s4 N).length), none, some (.int a), some (.int t), some (.int wn), none]) (O := ZO A s4 (N ++ [.lst []]))
    (fun i Γ O' => ∃ x5 x9 : Option Va, Γ = [some (.ref A.length), some (.int size), some (.str "abcdefghijklmnopqrstuvwxyz"), some (.int un), some (.ref (ZO A s4 N).length), x5, some (.int a), some (.int t), some (.int wn), x9] ∧ O' = ZO A s4 (N ++ [.lst (((List.range i).map (nmN a t un wn)).map Va.str)])) ⟨none, none, rfl, rfl⟩ (by
      rintro i i' Γ O' hi ⟨x5, x9, rfl, rfl⟩
      have hil := (List.getElem?_eq_some_iff.mp hi)
      have e0 : i' = i := by have := hil.2; simpa using this.symm
      subst e0
      have hi2 : i' < size := by simpa using hil.1
      have k0 : 0 ≤ (a + t * (i' : Int)) % 26 := Int.emod_nonneg _ (by decide)
      have k1 : (a + t * (i' : Int)) % 26 < 26 := Int.emod_lt_of_pos _ (by decide)
      have hmul : ∀ O, mulV O (.int t) (.int (i' : Int)) = some (.int (t * (i' : Int))) := fun O => mul_sm O (small (k := 20) (by omega) (by decide)) (small (k := 20) (by omega) (by decide))
      have hmul2 : ∀ O, mulV O (.int 37) (.int (i' : Int)) = some (.int (37 * (i' : Int))) := fun O => mul_sm O (small (k := 37) (by decide) (by decide)) (small (k := 20) (by omega) (by decide))
      have em : ((un : Int) + 37 * (i' : Int)) % 1000 = (((un + 37 * i') % 1000 : Nat) : Int) := by omega
      have eh : (100 : Int) + (i' : Int) = ((100 + i' : Nat) : Int) := by omega
      have lsg : (sgN a t i').length = 1 := rfl
      have llt : (ltN a).length = 1 := rfl
      have lzz : ("zz9a" : Str).length = 4 := by decide +kernel
      have l1 := (strN_ok ((un + 37 * i') % 1000) (Nat.mod_lt _ (by decide))).1.2
      have l2 := (strN_ok (100 + i') (by omega)).1.2
      have l3 : (ltN a ++ "zz9a" : Str).length = 5 := by
        show ((ltN a).cps ++ ("zz9a" : Str).cps).size = 5
        rw [Array.size_append, show (ltN a).cps.size = 1 from llt, show ("zz9a" : Str).cps.size = 4 from lzz]
      have hsg : ∀ O, ixV O (.str "abcdefghijklmnopqrstuvwxyz") (.int ((a + t * (i' : Int)) % 26)) = some (.str (sgN a t i')) := fun O => ix_letter O k0 k1
      have hlt : ∀ O, ixV O (.str "abcdefghijklmnopqrstuvwxyz") (.int a) = some (.str (ltN a)) := fun O => ix_letter O a0 (by omega)
      have hsel : ∀ O, ixV O (.lst [.str (sgN a t i'), .str (sgN a t i' ++ strN ((un + 37 * i') % 1000)), .str (ltN a ++ "zz9a" ++ strN (100 + i'))]) (.int (wn : Int)) = some (.str (nmN a t un wn i')) := fun O => by
        have : wn = 0 ∨ wn = 1 ∨ wn = 2 := by omega
        rcases this with rfl | rfl | rfl <;> rfl
      have happ : appendM (ZO A s4 (N ++ [.lst (((List.range i').map (nmN a t un wn)).map Va.str)])) (ZO A s4 N).length [.str (nmN a t un wn i')] = some (.none, ZO A s4 (N ++ [.lst (((List.range (i' + 1)).map (nmN a t un wn)).map Va.str)])) := by
        have hz : (((List.range i').map (nmN a t un wn)).map Va.str).length < sizeLine := by
          have h3 : 100 ≤ sizeLine := by decide
          simp; omega
        simp only [appendM, ZO_last, hz, if_true, ZO_setlast, List.range_succ, List.map_append, List.map_cons, List.map_nil]
      refine ⟨_, [some (.ref A.length), some (.int size), some (.str "abcdefghijklmnopqrstuvwxyz"), some (.int un), some (.ref (ZO A s4 N).length), some (nV i'), some (.int a), some (.int t), some (.int wn), some (.str (sgN a t i'))], _, rfl, ?_, _, _, rfl, rfl⟩
      unfold l__law_cells_1
      exact r_seq (r_asgN (r_op (by walk_at "tv go") (r_op (r_op (by walk_at "tv go") (r_op (by walk_at "tv go") (by walk_at "tv go") (hmul _)) (add_ii _ _ _)) (by walk_at "tv go") (mod_ok _ (by decide))) (hsg _))) (r_drop (r_meth (by walk_at "tv go") ZO_last (r_cons (r_op (r_lst (r_cons (by walk_at "tv go") (r_cons (r_op (by walk_at "tv go") (r_cb (r_cons (r_op (r_op (by walk_at "tv go") (r_op (by walk_at "tv go") (by walk_at "tv go") (hmul2 _)) (add_ii _ _ _)) (by walk_at "tv go") (by rw [mod_ok _ (by decide), em])) (by walk_at "tv go")) (strV_ok _ _ (Nat.mod_lt _ (by decide)))) (add_str _ (by omega))) (r_cons (r_op (r_op (r_op (by walk_at "tv go") (by walk_at "tv go") (hlt _)) (by walk_at "tv go") (add_str _ (by omega))) (r_cb (r_cons (r_op (by walk_at "tv go") (by walk_at "tv go") (by rw [nV, add_ii, eh])) (by walk_at "tv go")) (strV_ok _ _ (by omega))) (add_str _ (by omega))) (by walk_at "tv go")))) (by exact sl_3)) (by walk_at "tv go") (hsel _)) (by walk_at "tv go")) happ)))
  subst e1 e2
  rw [List.length_range] at hf
  refine ⟨(List.range size).map (nmN a t un wn), s4, by simp, fun x hx => ?_, ?_, by rw [show b + 4 = b + 1 + 1 + 1 + 1 by omega]; exact h4, ?_⟩
  · obtain ⟨k, hk, rfl⟩ := List.mem_map.mp hx
    exact nmN_cell ⟨a0, a1⟩ (by have := List.mem_range.mp hk; omega)
  · refine List.pairwise_map.mpr (List.nodup_range.imp_of_mem fun {i j} hi hj hij e => hij (nmN_inj ht (by have := List.mem_range.mp hi; omega) (by have := List.mem_range.mp hj; omega) e))
  · have hb : b__law_cells (start 10 [.ref A.length, .int size]) (ZO A s N) = some (.rt (.lst (((List.range size).map (nmN a t un wn)).map Va.str)), ZO A s4 (N ++ [.dead])) := by
      unfold b__law_cells
      refine r_seq (r_asgN (by walk_at "tv go")) (r_seq (r_par3 (r_cons (r_call0 (by walk_at "tv go") d1) (r_cons (r_op (r_lst (r_cons (by walk_at "tv go") (r_cons (by walk_at "tv go") (r_cons (by walk_at "tv go") (r_cons (by walk_at "tv go") (by walk_at "tv go"))))) (by decide)) (r_call0 (by walk_at "tv go") d2) hix) (r_cons (r_call0 (by walk_at "tv go") d3) (by walk_at "tv go"))))) (r_seq (r_asgN (r_call0 (by walk_at "tv go") d4)) (r_seq (r_asgN (r_trL (r_lst (by walk_at "tv go") (by decide)))) ?_)))
      rw [ZO_app]
      refine r_seq (r_for (r_x (by walk_at "tv go") (rng_ok size (by omega))) hf) (r_seq (r_fz (i := 4) rfl (y := .lst (((List.range size).map (nmN a t un wn)).map Va.str)) (O1 := ZO A s4 (N ++ [.dead])) ?_) (r_ret (by walk_at "tv go")))
      simp only [fz1, ZO_last, ZO_setlast]
    unfold f__law_cells
    rw [r_fn (np := 2) rfl hb, ← ZO_app, gc_ZO (by rw [below]; exact below_strs _ _)]
end
end TV
end
-- N7
section
set_option Elab.async false
set_option linter.all false
set_option maxRecDepth 100000
set_option maxHeartbeats 2000000
set_option exponentiation.threshold 500000
namespace TV
open PySem L2
open TB (lk pt)
/-! N7: drawn boards. -/
section
/-- a further cell above closed places -/
theorem DagOk.snoc2 {lw un : List (List Nat)} {ev hid : List Nat} (D : DagOk lw un) (nd : ev.Nodup) (hc : ∀ a ∈ ev, a < un.length) (hcl : ∀ a ∈ ev, ∀ w, un[a]? = some w → ∀ b ∈ w, b ∈ ev) (hh : ∀ a, a ∈ hid ↔ ∃ o ∈ ev, ∃ w, un[o]? = some w ∧ a ∈ w) :
    DagOk (lw ++ [ev.filter fun a => decide (a ∉ hid)]) (un ++ [ev]) := by
  have hl := D.len
  have old : ∀ (j : Nat) (w : List Nat), j < un.length → (un ++ [ev])[j]? = some w → un[j]? = some w := fun j w hj h => by rwa [List.getElem?_append_left hj] at h
  refine ⟨by simp [hl], fun j l u h1 h2 a ha => ?_, fun j u h2 a ha => ?_, fun j u h2 a ha w hw b hb => ?_, fun j l h1 a ha b hb w hw => ?_, fun j l h1 => ?_⟩
  · rcases snoc_get h1 with ⟨g1, g2⟩ | ⟨g1, g2⟩
    · exact D.sub j l u g2 (old j u (by omega) h2) a ha
    · subst g2
      rcases snoc_get h2 with ⟨k1, _⟩ | ⟨_, k2⟩
      · omega
      · subst k2
        exact (List.mem_filter.mp ha).1
  · rcases snoc_get h2 with ⟨g1, g2⟩ | ⟨g1, g2⟩
    · exact D.lt j u g2 a ha
    · subst g2
      have := hc a ha
      omega
  · rcases snoc_get h2 with ⟨g1, g2⟩ | ⟨g1, g2⟩
    · have := D.lt j u g2 a ha
      exact D.tr j u g2 a ha w (old a w (by omega) hw) b hb
    · subst g2
      exact hcl a ha w (old a w (hc a ha) hw) b hb
  · rcases snoc_get h1 with ⟨g1, g2⟩ | ⟨g1, g2⟩
    · have hb1 := D.sub j l _ g2 (List.getElem?_eq_getElem (by omega)) b hb
      have hb2 := D.lt j _ (List.getElem?_eq_getElem (by omega)) b hb1
      exact D.red j l g2 a ha b hb w (old b w (by omega) hw)
    · subst g2
      simp only [List.mem_filter, decide_eq_true_eq] at ha hb
      have := hc b hb.1
      intro hm
      exact ha.2 ((hh a).mpr ⟨b, hb.1, w, old b w this hw, hm⟩)
  · rcases snoc_get h1 with ⟨g1, g2⟩ | ⟨g1, g2⟩
    · exact D.nd j l g2
    · subst g2
      exact List.Pairwise.filter _ nd
/-- whole numbers, each once, sorted -/
def srtN (l : List Nat) : List Nat := (srtI (l.map fun (n : Nat) => (n : Int))).map Int.toNat
theorem srtN_cast (l : List Nat) : (srtI (l.map fun (n : Nat) => (n : Int))) = (srtN l).map fun (n : Nat) => (n : Int) := by
  unfold srtN
  rw [List.map_map]
  conv => lhs; rw [← List.map_id (srtI _)]
  refine List.map_congr_left fun x hx => ?_
  rw [srtI_mem] at hx
  obtain ⟨n, _, rfl⟩ := List.mem_map.mp hx
  simp
theorem srtN_mem {l : List Nat} {k : Nat} : k ∈ srtN l ↔ k ∈ l := by
  have h1 : k ∈ srtN l ↔ (k : Int) ∈ srtI (l.map fun (n : Nat) => (n : Int)) := by
    rw [srtN_cast, List.mem_map]
    exact ⟨fun h => ⟨k, h, rfl⟩, fun ⟨a, ha, e⟩ => by have : a = k := by omega
                                                      rw [← this]; exact ha⟩
  rw [h1, srtI_mem, List.mem_map]
  exact ⟨fun ⟨a, ha, e⟩ => by have : a = k := by omega
                              rw [← this]; exact ha, fun h => ⟨k, h, rfl⟩⟩
theorem srtN_nd (l : List Nat) : (srtN l).Nodup := by
  have h := srtI_lt (l.map fun (n : Nat) => (n : Int))
  rw [srtN_cast, List.pairwise_map] at h
  exact h.imp fun h => by omega
theorem ints_nV : ∀ l : List Nat, intsOf (l.map nV) = some (l.map fun (n : Nat) => (n : Int))
  | [] => rfl
  | a :: l => by simp [intsOf, nV, ints_nV l]
theorem sort_il (O : So) {l : List Nat} (h : l.length < 64) : sortSetV O [ilV l] = some (ilV (srtN l)) := by
  simp only [sortSetV, ilV, asL, ints_nV]
  rw [if_pos (by simpa using h), srtN_cast, List.map_map]
  rfl
theorem sum2_ilS (O : So) (ls : List (List Nat)) (st : List Nat) (h : (st ++ ls.flatten).length ≤ 1000) : sum2V O [.lst (ls.map ilV), ilV st] = some (ilV (st ++ ls.flatten)) := by
  cases ls with
  | nil => simp [sum2V, asL, ilV]
  | cons l ls =>
    have e := listsIn_il O (l :: ls)
    have hz : (st.map nV ++ (List.map (fun l => l.map nV) (l :: ls)).flatten).length ≤ sizeLine := by
      have : 1000 ≤ sizeLine := by decide
      have e2 : (st.map nV ++ (List.map (fun l => l.map nV) (l :: ls)).flatten) = (st ++ (l :: ls).flatten).map nV := by rw [List.map_append, List.map_flatten]
      rw [e2, List.length_map]; omega
    have e2 : (st.map nV ++ (List.map (fun l => l.map nV) (l :: ls)).flatten) = (st ++ (l :: ls).flatten).map nV := by rw [List.map_append, List.map_flatten]
    rw [List.map_cons, List.map_cons] at e
    rw [List.map_cons] at hz e2
    rw [List.map_cons]
    show (match listsIn O (ilV l :: ls.map ilV) with | some yss => if (st.map nV ++ yss.flatten).length ≤ sizeLine then some (Va.lst (st.map nV ++ yss.flatten)) else none | none => none) = _
    rw [e]
    show (if (st.map nV ++ (l.map nV :: ls.map fun l => l.map nV).flatten).length ≤ sizeLine then some (Va.lst (st.map nV ++ (l.map nV :: ls.map fun l => l.map nV).flatten)) else none) = _
    rw [if_pos hz, e2]
    rfl
theorem picks {A M : So} {dn : Nat} {G : Option Va → Ga} (h0 : ∀ x, (G x)[0]? = some (some (.ref A.length))) (h5 : ∀ x, (G x)[5]? = some (some (nV dn))) (h12 : ∀ x, (G x)[12]? = some x) (hs : ∀ x y, (G x).set 12 y = G y) (hd : dn ≤ 10) : ∀ (l : List Nat) (acc : List Nat) (s : Sst) (b : Int), Bd2 s b → b + l.length ≤ 800000 →
    ∃ (ch : List Nat) (s' : Sst), ch.Sublist l ∧ Bd2 s' (b + l.length) ∧ lcL (gN 12) (mB (mOp eqV (mCall f__law_draw [] (aCons (mVar 0) (aCons (mOp addV (mC (.int 1)) (mVar 5)) aNil))) (mC (.int 0)))) (mVar 12) (G none) (l.map nV) (acc.map nV) (ZO A s M) = some ((acc ++ ch).map nV, ZO A s' M)
  | [], acc, s, b, h, hb => ⟨[], s, List.Sublist.slnil, by simpa using h, by simp [lcL]⟩
  | i :: l, acc, s, b, h, hb => by
    rw [List.length_cons] at hb
    obtain ⟨x, s1, x0, x1, h1, d1⟩ := draw_okS A M s b (1 + dn) h (by omega) (by omega) (by omega)
    have hg : (gN 12) (nV i) (G none) = some (G (some (nV i))) := by show some ((G none).set 12 _) = _; rw [hs]
    have ht : mB (mOp eqV (mCall f__law_draw [] (aCons (mVar 0) (aCons (mOp addV (mC (.int 1)) (mVar 5)) aNil))) (mC (.int 0))) (G (some (nV i))) (ZO A s M) = some (decide (x = 0), ZO A s1 M) :=
      r_b (r_op (r_call0 (r_cons (r_var (h0 _)) (r_cons (r_op (by walk_at "tv go") (r_var (h5 _)) (add_ii _ _ _)) (by walk_at "tv go"))) d1) (by walk_at "tv go") (eq_i _ _ _))
    have he : mVar 12 (G (some (nV i))) (ZO A s1 M) = some (nV i, ZO A s1 M) := r_var (h12 _)
    by_cases hx : x = 0
    · obtain ⟨ch, s2, i1, i2, i3⟩ := picks h0 h5 h12 hs hd l (acc ++ [i]) s1 (b + 1) h1 (by omega)
      refine ⟨i :: ch, s2, i1.cons₂ i, by rw [List.length_cons, show b + ((l.length + 1 : Nat) : Int) = b + 1 + l.length by omega]; exact i2, ?_⟩
      rw [List.map_cons, lcL, hg]
      simp only [ht, hx, decide_true, he]
      rw [List.map_append] at i3
      rw [show acc ++ i :: ch = acc ++ [i] ++ ch by simp]
      exact i3
    · obtain ⟨ch, s2, i1, i2, i3⟩ := picks h0 h5 h12 hs hd l acc s1 (b + 1) h1 (by omega)
      refine ⟨ch, s2, i1.cons i, by rw [List.length_cons, show b + ((l.length + 1 : Nat) : Int) = b + 1 + l.length by omega]; exact i2, ?_⟩
      rw [List.map_cons, lcL, hg]
      simp only [ht, hx, decide_false]
      exact i3
theorem ixP7 {A N D : So} {s : Sst} {un : List (List Nat)} {o : Nat} {w : List Nat} (h : un[o]? = some w) : ixV (ZO A s (N ++ .lst (un.map ilV) :: D)) (.ref (A.length + (N.length + 1))) (nV o) = some (ilV w) := by
  have hO : (ZO A s (N ++ .lst (un.map ilV) :: D))[A.length + (N.length + 1)]? = some (.lst (un.map ilV)) := by
    unfold ZO
    rw [List.getElem?_append_right (by omega), show A.length + (N.length + 1) - A.length = N.length + 1 by omega, List.getElem?_cons_succ, List.getElem?_append_right (Nat.le_refl _)]
    simp
  have e : atI (un.map ilV) (o : Int) = some (ilV w) := atI_nat (by rw [List.getElem?_map, h]; rfl)
  simp only [ixV, asD, hO, nV, asQ, e]
theorem getP7 {A N D : So} {s : Sst} {x : Ob} : (ZO A s (N ++ x :: D))[A.length + (N.length + 1)]? = some x := by
  unfold ZO
  rw [List.getElem?_append_right (by omega), show A.length + (N.length + 1) - A.length = N.length + 1 by omega, List.getElem?_cons_succ, List.getElem?_append_right (Nat.le_refl _)]
  simp
theorem getP8 {A N : So} {s : Sst} {x y : Ob} : (ZO A s (N ++ [x, y]))[A.length + (N.length + 2)]? = some y := by
  unfold ZO
  rw [List.getElem?_append_right (by omega), show A.length + (N.length + 2) - A.length = N.length + 1 + 1 by omega, List.getElem?_cons_succ, List.getElem?_append_right (by omega)]
  simp
theorem setP7 {A N D : So} {s : Sst} {x z : Ob} : (ZO A s (N ++ x :: D)).set (A.length + (N.length + 1)) z = ZO A s (N ++ z :: D) := by
  unfold ZO
  rw [List.set_append_right _ _ (by omega), show A.length + (N.length + 1) - A.length = N.length + 1 by omega, List.set_cons_succ, List.set_append_right _ _ (Nat.le_refl _)]
  simp
theorem setP8 {A N : So} {s : Sst} {x y z : Ob} : (ZO A s (N ++ [x, y])).set (A.length + (N.length + 2)) z = ZO A s (N ++ [x, z]) := by
  unfold ZO
  rw [List.set_append_right _ _ (by omega), show A.length + (N.length + 2) - A.length = N.length + 1 + 1 by omega, List.set_cons_succ, List.set_append_right _ _ (by omega)]
  simp
abbrev GP (A N : So) (lm : Va) (k dn : Nat) (nm : List Str) (x2 x9 x10 x11 x12 : Option Va) : Ga :=
  [some (.ref A.length), some lm, x2, none, some (nV k), some (nV dn), some (.lst (nm.map Va.str)), some (.ref (A.length + (N.length + 1))), some (.ref (A.length + (N.length + 2))), x9, x10, x11, x12]
theorem flat_le {l : List (List Nat)} {k : Nat} (h : ∀ x ∈ l, x.length ≤ k) : l.flatten.length ≤ k * l.length := by
  induction l with
  | nil => simp
  | cons a l ih =>
    have h1 := h a List.mem_cons_self
    have h2 := ih fun x hx => h x (List.mem_cons_of_mem _ hx)
    rw [List.flatten_cons, List.length_append, List.length_cons, Nat.mul_succ]
    omega
/-- one more cell -/
theorem cell_step (A N : So) (s : Sst) (b : Int) (hb : b ≤ 500000) (lw un : List (List Nat)) (i : Nat) (hi : i ≤ 7) (h : Bd2 s b) (hD : DagOk lw un) (hl : lw.length = i) (hnd : ∀ u ∈ un, u.Nodup) (lm : Va) (k dn : Nat) (hd : dn ≤ 10) (nm : List Str) (x9 x10 x11 : Option Va) :
    ∃ (lw' un' : List (List Nat)) (s' : Sst) (y9 y10 y11 : Option Va), DagOk lw' un' ∧ lw'.length = i + 1 ∧ (∀ u ∈ un', u.Nodup) ∧ Bd2 s' (b + 8) ∧
      l__law_poset_1 (GP A N lm k dn nm (some (nV i)) x9 x10 x11 none) (ZO A s (N ++ [.lst (un.map ilV), .lst (lw.map ilV)])) = some (.nx (GP A N lm k dn nm (some (nV i)) y9 y10 y11 none), ZO A s' (N ++ [.lst (un'.map ilV), .lst (lw'.map ilV)])) := by
  have hu : un.length = i := by rw [← hD.len]; exact hl
  obtain ⟨ch, s', c1, c2, c3⟩ := picks (A := A) (M := N ++ [.lst (un.map ilV), .lst (lw.map ilV)]) (dn := dn) (G := fun x => GP A N lm k dn nm (some (nV i)) x9 x10 x11 x) (fun _ => rfl) (fun _ => rfl) (fun _ => rfl) (fun _ _ => rfl) hd (List.range i) [] s b h (by rw [List.length_range]; omega)
  rw [List.length_range] at c2
  have chn : ch.Nodup := c1.nodup List.nodup_range
  have chl : ∀ a ∈ ch, a < i := fun a ha => List.mem_range.mp (c1.subset ha)
  have len_lt : ∀ (l : List Nat) (n : Nat), l.Nodup → (∀ a ∈ l, a < n) → l.length ≤ n := fun l n nd hl => by
    have := nd_sub_len nd (m := List.range n) fun a ha => List.mem_range.mpr (hl a ha)
    rwa [List.length_range] at this
  have ulen : ∀ j, j < i → (un.getD j []).length ≤ 7 := fun j hj => by
    have e : un[j]? = some (un.getD j []) := by simp [show j < un.length by omega]
    have := len_lt _ j (hnd _ (List.mem_of_getElem? e)) (hD.lt j _ e)
    omega
  have ug : ∀ j, j < i → un[j]? = some (un.getD j []) := fun j hj => by simp [show j < un.length by omega]
  have chc : ch.length ≤ 7 := by have := len_lt ch i chn chl; omega
  -- what lies below
  have f1 : (ch.map fun j => un.getD j []).flatten.length ≤ 7 * ch.length := by
    have := flat_le (l := ch.map fun j => un.getD j []) (k := 7) fun x hx => by
      obtain ⟨j, hj, rfl⟩ := List.mem_map.mp hx
      exact ulen j (chl j hj)
    rwa [List.length_map] at this
  generalize hev : srtN (ch ++ (ch.map fun j => un.getD j []).flatten) = ev
  have evm : ∀ a, a ∈ ev ↔ a ∈ ch ∨ ∃ o ∈ ch, a ∈ un.getD o [] := fun a => by
    rw [← hev, srtN_mem, List.mem_append, List.mem_flatten]
    constructor
    · rintro (h | ⟨w, hw, ha⟩)
      · exact Or.inl h
      · obtain ⟨o, ho, rfl⟩ := List.mem_map.mp hw
        exact Or.inr ⟨o, ho, ha⟩
    · rintro (h | ⟨o, ho, ha⟩)
      · exact Or.inl h
      · exact Or.inr ⟨_, List.mem_map.mpr ⟨o, ho, rfl⟩, ha⟩
  have evn : ev.Nodup := by rw [← hev]; exact srtN_nd _
  have evl : ∀ a ∈ ev, a < i := fun a ha => by
    rcases (evm a).mp ha with h | ⟨o, ho, h⟩
    · exact chl a h
    · have := chl o ho
      have := hD.lt o _ (ug o this) a h
      omega
  have evc : ev.length ≤ 7 := by have := len_lt ev i evn evl; omega
  have f2 : (ev.map fun j => un.getD j []).flatten.length ≤ 7 * ev.length := by
    have := flat_le (l := ev.map fun j => un.getD j []) (k := 7) fun x hx => by
      obtain ⟨j, hj, rfl⟩ := List.mem_map.mp hx
      exact ulen j (evl j hj)
    rwa [List.length_map] at this
  generalize hhid : (ev.map fun j => un.getD j []).flatten = hid at f2
  have hidm : ∀ a, a ∈ hid ↔ ∃ o ∈ ev, ∃ w, un[o]? = some w ∧ a ∈ w := fun a => by
    rw [← hhid, List.mem_flatten]
    constructor
    · rintro ⟨w, hw, ha⟩
      obtain ⟨o, ho, rfl⟩ := List.mem_map.mp hw
      exact ⟨o, ho, _, ug o (evl o ho), ha⟩
    · rintro ⟨o, ho, w, hw, ha⟩
      refine ⟨_, List.mem_map.mpr ⟨o, ho, rfl⟩, ?_⟩
      rw [ug o (evl o ho)] at hw
      cases hw
      exact ha
  have D' := hD.snoc2 (ev := ev) (hid := hid) evn (fun a ha => by rw [hu]; exact evl a ha) (fun a ha w hw b hb => by
    rw [evm] at ha ⊢
    right
    rcases ha with h | ⟨o, ho, h⟩
    · refine ⟨a, h, ?_⟩
      rw [ug a (chl a h)] at hw
      cases hw
      exact hb
    · exact ⟨o, ho, hD.tr o _ (ug o (chl o ho)) a h w hw b hb⟩) hidm
  have sl : 1000 ≤ sizeLine := by decide
  have c4 := c3
  rw [List.nil_append] at c4
  have hrd : ∀ (x9 x10 x11 : Option Va) (l : List Nat) (un' lw' : List (List Nat)), un' = un → (∀ o ∈ l, o < i) → lcL (gN 12) tYs (mOp ixV (mVar 7) (mVar 12)) (GP A N lm k dn nm (some (nV i)) x9 x10 x11 none) (l.map nV) [] (ZO A s' (N ++ [.lst (un'.map ilV), .lst (lw'.map ilV)])) = some ((l.map fun j => un.getD j []).map ilV, ZO A s' (N ++ [.lst (un'.map ilV), .lst (lw'.map ilV)])) := fun x9 x10 x11 l un' lw' hun hlt => by
    subst hun
    have := lcL_map (g := gN 12) (t := tYs) (e := mOp ixV (mVar 7) (mVar 12)) (Γ := GP A N lm k dn nm (some (nV i)) x9 x10 x11 none) (O := ZO A s' (N ++ [.lst (un'.map ilV), .lst (lw'.map ilV)])) (h := nV) (r := fun j => ilV (un'.getD j [])) l [] fun o ho => ⟨_, rfl, rfl, r_op (by walk_at "tv go") (by walk_at "tv go") (ixP7 (ug o (hlt o ho)))⟩
    rw [List.nil_append] at this
    rw [List.map_map]
    exact this
  have hflt : ∀ (un' lw' : List (List Nat)), lcL (gN 12) (mB (mOp notInV (mVar 12) (mVar 11))) (mVar 12) (GP A N lm k dn nm (some (nV i)) (some (ilV ch)) (some (ilV ev)) (some (ilV hid)) none) (ev.map nV) [] (ZO A s' (N ++ [.lst (un'.map ilV), .lst (lw'.map ilV)])) = some ((ev.filter fun a => decide (a ∉ hid)).map nV, ZO A s' (N ++ [.lst (un'.map ilV), .lst (lw'.map ilV)])) := fun un' lw' => by
    have := lcL_filter (g := gN 12) (t := mB (mOp notInV (mVar 12) (mVar 11))) (e := mVar 12) (Γ := GP A N lm k dn nm (some (nV i)) (some (ilV ch)) (some (ilV ev)) (some (ilV hid)) none) (O := ZO A s' (N ++ [.lst (un'.map ilV), .lst (lw'.map ilV)])) (h := nV) (r := nV) (p := fun a => decide (a ∉ hid)) ev [] fun a ha => ⟨_, rfl, r_b (r_op (by walk_at "tv go") (by walk_at "tv go") (by rw [notInV, in_ints]; simp)), fun _ => by walk_at "tv go"⟩
    rw [List.nil_append] at this
    exact this
  have ap7 : ∀ (ev : List Nat), appendM (ZO A s' (N ++ [.lst (un.map ilV), .lst (lw.map ilV)])) (A.length + (N.length + 1)) [ilV ev] = some (.none, ZO A s' (N ++ [.lst ((un ++ [ev]).map ilV), .lst (lw.map ilV)])) := fun ev => by
    have hz : (un.map ilV).length < sizeLine := by rw [List.length_map]; omega
    simp only [appendM, getP7, hz, if_true, setP7, List.map_append, List.map_cons, List.map_nil]
  have ap8 : ∀ (un' : List (List Nat)) (l : List Nat), appendM (ZO A s' (N ++ [.lst (un'.map ilV), .lst (lw.map ilV)])) (A.length + (N.length + 2)) [ilV l] = some (.none, ZO A s' (N ++ [.lst (un'.map ilV), .lst ((lw ++ [l]).map ilV)])) := fun un' l => by
    have hz : (lw.map ilV).length < sizeLine := by rw [List.length_map]; omega
    simp only [appendM, getP8, hz, if_true, setP8, List.map_append, List.map_cons, List.map_nil]
  refine ⟨lw ++ [ev.filter fun a => decide (a ∉ hid)], un ++ [ev], s', some (ilV ch), some (ilV ev), some (ilV hid), D', by simp [hl], fun u hu => ?_, ⟨c2.1, by have := c2.2; omega⟩, ?_⟩
  · rcases List.mem_append.mp hu with hu | hu
    · exact hnd u hu
    · simp at hu; subst hu; exact evn
  · unfold l__law_poset_1
    have lr : ((List.range i).map nV).length ≤ sizeLine := by rw [List.length_map, List.length_range]; omega
    have lc : (ch.map nV).length ≤ sizeLine := by rw [List.length_map]; omega
    have le : (ev.map nV).length ≤ sizeLine := by rw [List.length_map]; omega
    refine r_seq (r_asgN (v := ilV ch) (r_lc (r_x (by walk_at "tv go") (rng_ok i (by omega))) lr c4)) (r_seq (r_asgN (v := ilV ev) (r_cb (r_cons (r_cb (r_cons (r_lc (r_it (by walk_at "tv go") rfl) lc (hrd _ _ _ ch un lw rfl chl)) (by walk_at "tv go")) (sum2_ilS _ _ ch (by rw [List.length_append]; omega))) (by walk_at "tv go")) (by rw [sort_il _ (by rw [List.length_append]; omega), hev]))) (r_seq (r_asgN (v := ilV hid) (r_cb (r_cons (r_lc (r_it (by walk_at "tv go") rfl) le (hrd _ _ _ ev un lw rfl evl)) (by walk_at "tv go")) ?_)) (r_seq (r_drop (r_meth (by walk_at "tv go") getP7 (by walk_at "tv go") (ap7 ev))) (r_drop (r_meth (by walk_at "tv go") getP8 (r_cons (r_lc (r_it (by walk_at "tv go") rfl) le (hflt _ _)) (by walk_at "tv go")) (ap8 _ _))))))
    have := sum2_il (ZO A s' (N ++ [.lst (un.map ilV), .lst (lw.map ilV)])) (ev.map fun j => un.getD j []) (by rw [hhid]; omega)
    rw [hhid] at this
    exact this
end
end TV
end
-- N8
section
set_option Elab.async false
set_option linter.all false
set_option maxRecDepth 100000
set_option maxHeartbeats 2000000
set_option exponentiation.threshold 500000
namespace TV
open PySem L2
open TB (lk pt)
/-! N8: drawn boards, at last. -/
section
theorem poset_ok (A N : So) (s : Sst) (b : Int) (most : Nat) (hm : most ≤ 8) (h : Bd2 s b) (hb : b ≤ 400000) : ∃ (B : Bd) (L : Str → Str → Prop) (s' : Sst), BOk B L ∧ B.length ≤ most ∧ Bd2 s' (b + 100) ∧ f__law_poset [.ref A.length, .int most] (ZO A s N) = some (bdV B, ZO A s' N) := by
  obtain ⟨x, s1, x0, x1, h1, d1⟩ := draw_okS A N s b (most + 1) h (by omega) (by omega) (by omega)
  obtain ⟨k, rfl⟩ : ∃ k : Nat, x = (k : Int) := ⟨x.toNat, by omega⟩
  obtain ⟨y, s2, y0, y1, h2, d2⟩ := draw_okS A N s1 (b + 1) 4 h1 (by omega) (by decide) (by decide)
  obtain ⟨dn, hdn⟩ : ∃ dn : Nat, 1 + y = (dn : Int) := ⟨(1 + y).toNat, by omega⟩
  have hk7 : k ≤ most := by omega
  obtain ⟨nm, s3, hn1, hn2, hn3, h3, d3⟩ := cells_ok A N s2 (b + 1 + 1) k h2 (by omega) (by omega)
  have hq7 : (ZO A s3 N).length = A.length + (N.length + 1) := by simp [ZO]
  obtain ⟨Γ', O', hf, lw, un, s4, x2, x9, x10, x11, e1, e2, hD, hl, hu, hs⟩ := for_inv (g := gN 2) (h := nV) (b := l__law_poset_1) (xs := List.range k) (Γ := GP A N (.int most) k dn nm none none none none none) (O := ZO A s3 (N ++ [.lst [], .lst []]))
    (fun i Γ O' => ∃ (lw un : List (List Nat)) (s4 : Sst) (x2 x9 x10 x11 : Option Va), Γ = GP A N (.int most) k dn nm x2 x9 x10 x11 none ∧ O' = ZO A s4 (N ++ [.lst (un.map ilV), .lst (lw.map ilV)]) ∧ DagOk lw un ∧ lw.length = i ∧ (∀ u ∈ un, u.Nodup) ∧ Bd2 s4 (b + 6 + 8 * i)) ⟨[], [], s3, none, none, none, none, rfl, rfl, DagOk.nil, rfl, by simp, by rw [show b + 6 + 8 * ((0 : Nat) : Int) = b + 1 + 1 + 4 by omega]; exact h3⟩ (by
      rintro i i' Γ O' hi ⟨lw, un, s4, x2, x9, x10, x11, rfl, rfl, hD, hl, hu, hs⟩
      have hil := (List.getElem?_eq_some_iff.mp hi)
      have e0 : i' = i := by have := hil.2; simpa using this.symm
      subst e0
      have hi2 : i' < k := by simpa using hil.1
      obtain ⟨lw', un', s5, y9, y10, y11, hD', hl', hu', hs', hr⟩ := cell_step A N s4 (b + 6 + 8 * i') (by omega) lw un i' (by omega) hs hD hl hu (.int most) k dn (by omega) nm x9 x10 x11
      exact ⟨_, _, _, rfl, hr, lw', un', s5, some (nV i'), y9, y10, y11, rfl, rfl, hD', hl', hu', ⟨hs'.1, by have := hs'.2; omega⟩⟩)
  subst e1 e2
  rw [List.length_range] at hl hs
  have hB := board_BOk (un := un) hn1 (by omega) hn2 hn3 hl hD
  refine ⟨_, _, s4, hB, by rw [(sortB_perm _).length_eq]; simp [B0]; omega, ⟨hs.1, by have := hs.2; omega⟩, ?_⟩
  have sl : 1000 ≤ sizeLine := by decide
  have hrng := rng_ok k (by omega)
  have hpairs : ∀ (O : So) (x7 x9 x10 x11 : Option Va), lcL (gN 2) tYs (mTup (aCons (mOp ixV (mVar 6) (mVar 2)) (aCons (mCB tupleV (aCons (mCB sortedV (aCons (mLc [12] (mIt (mOp ixV (mVar 8) (mVar 2))) (gN 12) tYs (mOp ixV (mVar 6) (mVar 12))) aNil)) aNil)) aNil))) [some (.ref A.length), some (.int most), none, none, some (nV k), some (nV dn), some (.lst (nm.map Va.str)), x7, some (.lst (lw.map ilV)), x9, x10, x11, none] ((List.range k).map nV) [] O = some ([] ++ (List.range k).map fun i => itV (itB nm lw i), O) := fun O x7 x9 x10 x11 =>
    lcL_map (h := nV) (r := fun i => itV (itB nm lw i)) (List.range k) [] fun i hi => by
      have hik : i < k := List.mem_range.mp hi
      have ho : ∀ o ∈ lF lw i, o < nm.length := fun o ho => by
        have hul : un.length = k := by rw [← hD.len]; exact hl
        have h1 := hD.sub i _ (un.getD i []) (lF_get (by omega)) (by simp [show i < un.length by omega]) o ho
        have h2 := hD.lt i (un.getD i []) (by simp [show i < un.length by omega]) o h1
        omega
      have hll : (lF lw i).length ≤ 100 := by
        have := nd_sub_len (hD.nd i _ (lF_get (by omega))) (m := List.range nm.length) fun o h => List.mem_range.mpr (ho o h)
        rw [List.length_range] at this
        omega
      refine ⟨_, rfl, rfl, r_tup (r_cons (r_op (by walk_at "tv go") (by walk_at "tv go") (ix_nm (by omega))) (r_cons (r_cb (r_cons (r_cb (v := .lst ((sortS ((lF lw i).map (nmF nm))).map Va.str)) (r_cons (r_lc (r_it (r_op (by walk_at "tv go") (by walk_at "tv go") (ix_lw (by omega))) rfl) (by rw [List.length_map]; omega) (lcL_map (h := nV) (r := fun o => .str (nmF nm o)) (lF lw i) [] fun o h => ⟨_, rfl, rfl, r_op (by walk_at "tv go") (by walk_at "tv go") (ix_nm (ho o h))⟩)) (by walk_at "tv go")) ?_) (by walk_at "tv go")) rfl) (by walk_at "tv go"))) (by exact sl_2)⟩
      have := sorted_strs O (l := (lF lw i).map (nmF nm)) (by rw [List.length_map]; omega)
      rw [List.map_map] at this
      rw [List.nil_append]
      exact this
  have hb : b__law_poset (start 13 [.ref A.length, .int most]) (ZO A s N) = some (.rt (bdV (sortB' (B0 nm lw k))), ZO A s4 (N ++ [.dead, .dead])) := by
    unfold b__law_poset
    have hz2 : (nms (B0 nm lw k)).length ≤ 1000 := by rw [nms_B0 hn1]; omega
    refine r_seq (Γ1 := [some (.ref A.length), some (.int most), none, none, some (nV k), some (nV dn), none, none, none, none, none, none, none]) (O1 := ZO A s2 N) ?_ (r_seq (Γ1 := GP A N (.int most) k dn nm none none none none none) (O1 := ZO A s3 (N ++ [.lst [], .lst []])) ?_ (r_seq (r_for (r_x (by walk_at "tv go") hrng) hf) (r_seq (r_fz (i := 7) rfl (y := .lst (un.map ilV)) (O1 := ZO A s4 (N ++ [.dead, .lst (lw.map ilV)])) ?_) (r_seq (r_fz (i := 8) rfl (y := .lst (lw.map ilV)) (O1 := ZO A s4 (N ++ [.dead, .dead])) ?_) (r_seq (r_asgN (r_lc (r_x (by walk_at "tv go") hrng) (by rw [List.length_map, List.length_range]; omega) (hpairs _ _ _ _ _))) (r_ret (r_cb (r_cons (r_cb (by walk_at "tv go") (v := .lst ((sortB' (B0 nm lw k)).map itV)) ?_) (by walk_at "tv go")) rfl)))))))
    · refine r_asg (v := .tup [.int k, .int (1 + y)]) (r_tup (r_cons (r_call0 (r_cons (by walk_at "tv go") (r_cons (r_op (by walk_at "tv go") (by walk_at "tv go") (add_ii _ _ _)) (by walk_at "tv go"))) d1) (r_cons (r_op (by walk_at "tv go") (r_call0 (by walk_at "tv go") d2) (add_ii _ _ _)) (by walk_at "tv go"))) (by exact sl_2)) ?_
      rw [hdn]
      rfl
    · refine r_asg (v := .tup [.lst (nm.map Va.str), .ref (A.length + (N.length + 1)), .ref (A.length + (N.length + 2))]) (r_tup (r_cons (r_call0 (xs := [.ref A.length, .int k]) (by walk_at "tv go") d3) (r_cons (x := .ref (A.length + (N.length + 1))) (O1 := ZO A s3 (N ++ [.lst []])) ?_ (r_cons (x := .ref (A.length + (N.length + 2))) (O1 := ZO A s3 (N ++ [.lst [], .lst []])) ?_ (by walk_at "tv go")))) (by exact sl_3)) rfl
      · rw [← ZO_app]
        have := r_trL (Γ := [some (.ref A.length), some (.int most), none, none, some (nV k), some (nV dn), none, none, none, none, none, none, none]) (O := ZO A s3 N) (a := mLst aNil) (xs := []) (r_lst r_nil (by decide))
        rw [hq7] at this
        exact this
      · have := r_trL (Γ := [some (.ref A.length), some (.int most), none, none, some (nV k), some (nV dn), none, none, none, none, none, none, none]) (O := ZO A s3 (N ++ [.lst []])) (a := mLst aNil) (xs := []) (r_lst r_nil (by decide))
        have e : (ZO A s3 (N ++ [.lst []])).length = A.length + (N.length + 2) := by simp [ZO]
        rw [e, ZO_app] at this
        simpa using this
    · simp only [fz1, getP7, setP7]
    · simp only [fz1, getP8, setP8]
    · have := sorted_bd (ZO A s4 (N ++ [.dead, .dead])) (B := B0 nm lw k) (by simp [B0]; omega)
      unfold B0 at this ⊢
      rw [List.map_map] at this
      exact this
  unfold f__law_poset
  have e : ZO A s4 (N ++ [.dead, .dead]) = ZO A s4 N ++ [.dead, .dead] := by simp [ZO]
  rw [r_fn (np := 2) rfl hb, e, gc_ZO (below_bd _ _)]
end
end TV
end
-- N9
section
set_option Elab.async false
set_option linter.all false
set_option maxRecDepth 100000
set_option maxHeartbeats 2000000
set_option exponentiation.threshold 500000
namespace TV
open PySem L2
open TB (lk pt)
/-! N9: what a toggle keeps. -/
section
open TB (sz sz_div sz_add sz_mul sz_inv num_pos den_pos)
variable {B : Bd} {L : Str → Str → Prop} {v : Str → Rat} {f g x : Rat} {c : Str} {s : Str → Nat}
/-- all labels multiplied -/
def vs (v : Str → Rat) (x : Rat) : Str → Rat := fun c => v c * x
theorem map_vs (x : Rat) : ∀ l : List Str, (l.map (vs v x)).sum = (l.map v).sum * x
  | [] => by simp [Rat.zero_mul]
  | a :: l => by rw [List.map_cons, List.map_cons, List.sum_cons, List.sum_cons, map_vs x l, vs, Rat.add_mul]
theorem map_vsi (x : Rat) : ∀ l : List Str, (l.map fun u => (vs v x u)⁻¹).sum = (l.map fun u => (v u)⁻¹).sum * x⁻¹
  | [] => by simp [Rat.zero_mul]
  | a :: l => by
    rw [List.map_cons, List.map_cons, List.sum_cons, List.sum_cons, map_vsi x l, vs, Rat.inv_mul_rev, Rat.add_mul]
    grind
theorem lsum_vs (l : List Str) : lsum (vs v x) (f * x) l = lsum v f l * x := by
  unfold lsum
  split
  · rfl
  · exact map_vs x l
theorem usum_vs (l : List Str) : usum (vs v x) (g * x) l = usum v g l * x⁻¹ := by
  unfold usum
  split
  · rw [Rat.inv_mul_rev]; grind
  · exact map_vsi x l
theorem tg_vs (hx : x ≠ 0) : tg B (vs v x) (f * x) (g * x) c = tg B v f g c * x := by
  unfold tg
  rw [lsum_vs, usum_vs, vs, Rat.inv_mul_rev, Rat.inv_mul_rev, Rat.inv_inv]
  have h1 := Rat.mul_inv_cancel x hx
  have e : lsum v f (lo B c) * x * (x * (usum v g (up B c))⁻¹) * (x⁻¹ * (v c)⁻¹) = lsum v f (lo B c) * (usum v g (up B c))⁻¹ * (v c)⁻¹ * x * (x * x⁻¹) := by grind
  rw [e, h1, Rat.mul_one]
theorem vs_set (y : Rat) : vs (set1 v c y) x = set1 (vs v x) c (y * x) := by
  funext d
  unfold vs set1
  split <;> rfl
theorem tg_com (h : BOk B L) {d : Str} (hd : d ∈ nms B) (e : c ≠ d) (n1 : c ∉ lo B d) (n2 : d ∉ lo B c) (y : Rat) : tg B (set1 v c y) f g d = tg B v f g d := by
  unfold tg
  rw [lsum_set n1, usum_set (fun hm => n2 ((up_iff h).mp hm).2), set_ne _ _ (Ne.symm e)]
theorem set_com {d : Str} (e : c ≠ d) (y z : Rat) : set1 (set1 v c y) d z = set1 (set1 v d z) c y := by
  funext u
  unfold set1
  by_cases h1 : u = d
  · subst h1
    simp [Ne.symm e]
  · by_cases h2 : u = c
    · subst h2; simp [h1]
    · simp [h1, h2]
theorem tog_com (h : BOk B L) {d : Str} (hc : c ∈ nms B) (hd : d ∈ nms B) (n1 : c ∉ lo B d) (n2 : d ∉ lo B c) :
    set1 (set1 v c (tg B v f g c)) d (tg B (set1 v c (tg B v f g c)) f g d) = set1 (set1 v d (tg B v f g d)) c (tg B (set1 v d (tg B v f g d)) f g c) := by
  by_cases e : c = d
  · subst e; rfl
  · rw [tg_com h hd e n1 n2, tg_com h hc (Ne.symm e) n2 n1, set_com e]
/-- the sizes after a toggle -/
theorem tog_sz {sf sg S a : Nat} (h : BOk B L) (P : Pos B v f g) (hc : c ∈ nms B) (hs : ∀ c ∈ nms B, sz (s c) (v c)) (hf : sz sf f) (hg : sz sg g) (F : Fb B s S a) :
    ∃ s' : Str → Nat, (∀ d ∈ nms B, sz (s' d) (set1 v c (tg B v f g c) d)) ∧ Fb B s' (S + a + (sf + sg)) (S + (sf + sg)) := by
  refine ⟨setN s c (((lo B c).map fun z => s z + 1).sum + ((up B c).map fun z => s z + 1).sum + s c + (sf + sg)), fun d hd => ?_, F.step h hc (e := sf + sg) (by omega)⟩
  unfold setN set1
  by_cases e : d = c
  · subst e
    rw [if_pos rfl, if_pos rfl]
    unfold tg
    have u0 := usum_pos P (l := up B d) fun z hz => up_in hz
    exact (sz_mul (sz_mul (lsum_s (c := d) h hs hf) (sz_inv u0 (usum_s (c := d) P hs hg))) (sz_inv (P.nm hd) (hs d hd))).mono (by omega)
  · rw [if_neg e, if_neg e]
    exact hs d hd
theorem all_le (nd : (nms B).Nodup) {S : Nat} (hs : ∀ c ∈ nms B, sz (s c) (v c)) (hw : wS B s ≤ S) : ∀ q ∈ B, sz S (v q.1) := fun q hq => by
  have hc : q.1 ∈ nms B := List.mem_map.mpr ⟨q, hq, rfl⟩
  exact (hs _ hc).mono (by have := s_le (s := s) nd hc; omega)
theorem es_ok (h : BOk B L) (h8 : B.length ≤ 8) (P : Pos B v f g) (hs : ∀ c ∈ nms B, sz (s c) (v c)) (hw : wS B s ≤ 1900) (hf : sz 4 f) (hg : sz 4 g) : Pu f_edge_sum [bdV B, labV B v, bnV f g] (fq (es B v f g)) := by
  refine edge_sum_big (n := 1900) h P (all_le h.nd hs hw) (hf.mono (by omega)) (hg.mono (by omega)) (by omega) ?_
  have := nbs_len h (v := v) (f := f) (g := g) (k := 8) (fun p hp => by
    have := lo_len h (List.mem_map.mpr ⟨p, hp, rfl⟩)
    rw [lo_of h.nd hp] at this
    omega) (by omega) h8
  have h2 : (2 * 1900 + 1) * ((nbs B v f g).length + 1) ≤ (2 * 1900 + 1) * 73 := Nat.mul_le_mul_left _ (by omega)
  omega
theorem wide_ok {g' : Tg} {Γ : Ga} (O : So) (hx : 0 < x) (sx : sz 4 x) (P : ∀ p ∈ B, 0 < v p.1) (hv : ∀ p ∈ B, sz 4000 (v p.1)) (h : ∀ y, ∃ Γ1, g' y Γ = some Γ1 ∧ Γ1[9]? = some (some y) ∧ Γ1[4]? = some (some (fq x))) :
    lcL g' tYs (mCall f_multiply [] (aCons (mVar 9) (aCons (mVar 4) aNil))) Γ (B.map fun p => fq (v p.1)) [] O = some (B.map fun p => fq (vs v x p.1), O) := by
  have := lcL_map (g := g') (t := tYs) (e := mCall f_multiply [] (aCons (mVar 9) (aCons (mVar 4) aNil))) (Γ := Γ) (O := O) (h := fun p : Str × List Str => fq (v p.1)) (r := fun p => fq (vs v x p.1)) B [] fun p hp => by
    obtain ⟨Γ1, k1, k2, k3⟩ := h (fq (v p.1))
    exact ⟨Γ1, k1, rfl, r_call0 (r_cons (r_var k2) (r_cons (r_var k3) (by walk_at "tv go"))) (multiply_ok (P p hp) hx (hv p hp) sx (by omega) (by omega) O)⟩
  rwa [List.nil_append] at this
theorem step_right_ok {S a : Nat} (h : BOk B L) (h8 : B.length ≤ 8) (P : Pos B v f g) (hc : c ∈ nms B) (hs : ∀ c ∈ nms B, sz (s c) (v c)) (F : Fb B s S a) (hS : S + a + 8 ≤ 1900) (hf : sz 4 f) (hg : sz 4 g) (hx : 0 < x) (sx : sz 4 x) :
    Pu f__law_step_right [bdV B, labV B v, .str c, bnV f g, fq x] (.bool true) := fun O => by
  obtain ⟨s', hs', F'⟩ := tog_sz h P hc hs hf hg F
  have w1 : wS B s ≤ 1900 := by have := F.all; omega
  have w2 : wS B s' ≤ 1900 := by have := F'.all; omega
  have P' : Pos B (set1 v c (tg B v f g c)) f g := P.set (tg_pos h P hc) c
  have t1 := ltog_ok h P hc hs (by omega) hf hg (by omega) (by omega)
  have t2 := ltog_ok h P' hc hs' (by omega) hf hg (by omega) (by omega)
  rw [set_twice h P hc] at t2
  -- the dual board
  have hcd : c ∈ nms (dl B) := by rw [nms_dl]; exact hc
  have wd : wS (dl B) s ≤ 1900 := by unfold wS; rw [nms_dl]; exact w1
  have t3 := ltog_ok (dl_ok h) P.dl hcd (s := s) (fun d hd => by rw [nms_dl] at hd; exact sz_inv (P.nm hd) (hs d hd)) (by omega) (sz_inv P.ce hg) (sz_inv P.fl hf) (by omega) (by omega)
  rw [lab_dl, lab_dl, tg_dl h, ← vi_set] at t3
  -- multiplied
  have xne := TB.ne0 hx
  have Pw : Pos B (vs v x) (f * x) (g * x) := ⟨fun p hp => Rat.mul_pos (P.lab p hp) hx, Rat.mul_pos P.fl hx, Rat.mul_pos P.ce hx⟩
  have ww : wS B (fun d => s d + 4) ≤ 4000 := by
    have e : wS B (fun d => s d + 4) = wS B s + 4 * B.length := by
      unfold wS nms
      rw [List.map_map, List.map_map]
      have : ∀ l : Bd, (l.map ((fun c => s c + 4 + 1) ∘ fun x => x.1)).sum = (l.map ((fun c => s c + 1) ∘ fun x => x.1)).sum + 4 * l.length := fun l => by
        induction l with
        | nil => rfl
        | cons a l ih => simp only [List.map_cons, List.sum_cons, ih, List.length_cons, Function.comp]; omega
      exact this B
    omega
  have t4 := ltog_ok h Pw hc (s := fun d => s d + 4) (fun d hd => sz_mul (hs d hd) sx) ww (sz_mul hf sx) (sz_mul hg sx) (by omega) (by omega)
  rw [tg_vs xne, ← vs_set] at t4
  have b1 := fun q hq => (all_le h.nd hs w1 q hq).mono (show 1900 ≤ 4000 by omega)
  have b2 := fun q hq => (all_le h.nd hs' w2 q hq).mono (show 1900 ≤ 4000 by omega)
  have hne : neV O (fq (es B (set1 v c (tg B v f g c)) f g)) (fq (es B v f g)) = some (.bool false) := by rw [es_tg h P hc]; exact ne_fq O _
  have sl : B.length ≤ sizeLine := len36 h.small
  have slb : ∀ w : Str → Rat, (B.map fun p => fq (w p.1)).length ≤ sizeLine := fun w => by rw [List.length_map]; exact sl
  unfold f__law_step_right b__law_step_right
  refine r_fn0 rfl (r_seq (r_asgN (r_call0 (by walk_at "tv go") (t1 O)))
    (r_seq (r_sif0 (r_b (r_op (r_callN (xs := [bdV B, labV B (set1 v c (tg B v f g c))]) (ys := [bnV f g]) (by walk_at "tv go") (by walk_at "tv go") ⟨rfl, rfl⟩ (es_ok h h8 P' hs' w2 hf hg O)) (r_callN (xs := [bdV B, labV B v]) (ys := [bnV f g]) (by walk_at "tv go") (by walk_at "tv go") ⟨rfl, rfl⟩ (es_ok h h8 P hs w1 hf hg O)) hne)) (by walk_at "tv go"))
    (r_seq (r_sif0 (r_b (r_op (r_call0 (by walk_at "tv go") (t2 O)) (by walk_at "tv go") (ne_lab O))) (by walk_at "tv go"))
    (r_seq (r_asgN (v := bnV g⁻¹ f⁻¹) (r_tup (r_cons (r_un (r_op (by walk_at "tv go") (by walk_at "tv go") (ix_t1 _ _ _ _)) (rev_fq O P.ce)) (r_cons (r_un (r_op (by walk_at "tv go") (by walk_at "tv go") (ix_t0 _ _ _)) (rev_fq O P.fl)) (by walk_at "tv go"))) (by exact sl_2)))
    (r_seq (r_sif0 (r_b (r_op (r_call0 (r_cons (r_call0 (by walk_at "tv go") (dual_ok h O)) (r_cons (r_call0 (by walk_at "tv go") (dual_labels_ok h P.lab O)) (by walk_at "tv go"))) (t3 O)) (r_call0 (by walk_at "tv go") (dual_labels_ok h P'.lab O)) (ne_lab O))) (by walk_at "tv go"))
    (r_seq (r_asgN (v := labV B (vs v x)) (r_cb (r_cons (r_lc (r_it (by walk_at "tv go") (its_lab v)) (slb v) (wide_ok O hx sx P.lab b1 fun y => ⟨_, rfl, rfl, rfl⟩)) (by walk_at "tv go")) rfl))
    (r_seq (r_asgN (v := labV B (vs (set1 v c (tg B v f g c)) x)) (r_cb (r_cons (r_lc (r_it (by walk_at "tv go") (its_lab _)) (slb _) (wide_ok O hx sx P'.lab b2 fun y => ⟨_, rfl, rfl, rfl⟩)) (by walk_at "tv go")) rfl))
    (r_ret (r_op (r_call0 (r_cons (by walk_at "tv go") (r_cons (by walk_at "tv go") (r_cons (by walk_at "tv go") (r_cons (r_tup (r_cons (r_call0 (r_cons (r_op (by walk_at "tv go") (by walk_at "tv go") (ix_t0 _ _ _)) (by walk_at "tv go")) (multiply_ok P.fl hx hf sx (by omega) (by omega) O)) (r_cons (r_call0 (r_cons (r_op (by walk_at "tv go") (by walk_at "tv go") (ix_t1 _ _ _ _)) (by walk_at "tv go")) (multiply_ok P.ce hx hg sx (by omega) (by omega) O)) (by walk_at "tv go"))) (by exact sl_2)) (by walk_at "tv go"))))) (t4 O)) (by walk_at "tv go") (eq_lab O))))))))))
theorem exchange_right_ok {S a : Nat} {d : Str} (h : BOk B L) (P : Pos B v f g) (hc : c ∈ nms B) (hd : d ∈ nms B) (hs : ∀ c ∈ nms B, sz (s c) (v c)) (F : Fb B s S a) (hS : S + a + 8 ≤ 1900) (hf : sz 4 f) (hg : sz 4 g) :
    Pu f__law_exchange_right [bdV B, labV B v, .str c, .str d, bnV f g] (.bool true) := fun O => by
  have w1 : wS B s ≤ 1900 := by have := F.all; omega
  obtain ⟨s1, hs1, F1⟩ := tog_sz h P hc hs hf hg F
  obtain ⟨s2, hs2, F2⟩ := tog_sz h P hd hs hf hg F
  have w2 : wS B s1 ≤ 1900 := by have := F1.all; omega
  have w3 : wS B s2 ≤ 1900 := by have := F2.all; omega
  have t1 := ltog_ok h P hc hs (by omega) hf hg (by omega) (by omega)
  have t2 := ltog_ok h P hd hs (by omega) hf hg (by omega) (by omega)
  have t3 := ltog_ok h (P.set (tg_pos h P hc) c) hd hs1 (by omega) hf hg (by omega) (by omega)
  have t4 := ltog_ok h (P.set (tg_pos h P hd) d) hc hs2 (by omega) hf hg (by omega) (by omega)
  unfold f__law_exchange_right b__law_exchange_right
  have c1 : mB (mOp inV (mVar 2) (mCall f_lower_covers [] (aCons (mVar 0) (aCons (mVar 3) aNil)))) (start 6 [bdV B, labV B v, .str c, .str d, bnV f g]) O = some (decide (c ∈ lo B d), O) := r_b (r_op (by walk_at "tv go") (r_call0 (by walk_at "tv go") (lower_covers_ok h hd O)) (in_tupS O _ _))
  have c2 : mB (mOp inV (mVar 3) (mCall f_lower_covers [] (aCons (mVar 0) (aCons (mVar 2) aNil)))) (start 6 [bdV B, labV B v, .str c, .str d, bnV f g]) O = some (decide (d ∈ lo B c), O) := r_b (r_op (by walk_at "tv go") (r_call0 (by walk_at "tv go") (lower_covers_ok h hc O)) (in_tupS O _ _))
  by_cases n1 : c ∈ lo B d
  · rw [decide_eq_true n1] at c1
    exact r_fn0 rfl (r_seqR (r_sif1 (r_tor1 c1) (by walk_at "tv go")))
  · rw [decide_eq_false n1] at c1
    by_cases n2 : d ∈ lo B c
    · rw [decide_eq_true n2] at c2
      exact r_fn0 rfl (r_seqR (r_sif1 (r_tor0 c1 c2) (by walk_at "tv go")))
    · rw [decide_eq_false n2] at c2
      have he := tog_com (v := v) (f := f) (g := g) h hc hd n1 n2
      rw [← he] at t4
      exact r_fn0 rfl (r_seq (r_sif0 (r_tor0 c1 c2) (by walk_at "tv go")) (r_seq (r_asgN (r_call0 (r_cons (by walk_at "tv go") (r_cons (r_call0 (by walk_at "tv go") (t1 O)) (by walk_at "tv go"))) (t3 O))) (r_ret (r_op (by walk_at "tv go") (r_call0 (r_cons (by walk_at "tv go") (r_cons (r_call0 (by walk_at "tv go") (t2 O)) (by walk_at "tv go"))) (t4 O)) (eq_lab O)))))
end
end TV
end
-- L_k07
section
set_option Elab.async false
set_option linter.all false
set_option maxRecDepth 100000
set_option maxHeartbeats 2000000
set_option exponentiation.threshold 500000
namespace TV
open PySem L2
open TB (lk pt)
/-! the law k07 -/
section
open TB (sz)
variable {B : Bd} {L : Str → Str → Prop}
theorem fracsS (hB : BOk B L) {A N : So} {G : Option Va → Ga} (h3 : ∀ x, (G x)[3]? = some (some (.ref A.length))) (hs : ∀ x y, (G x).set 9 y = G y) (s : Sst) (b : Int) (h : Bd2 s b) (hb : b ≤ 700000) :
    ∃ (v : Str → Rat) (s' : Sst), (∀ p ∈ B, 0 < v p.1 ∧ zb 9 (v p.1)) ∧ Bd2 s' (b + 2 * B.length) ∧ lcL (gN 9) tYs (mCall f__law_fraction [] (aCons (mVar 3) aNil)) (G none) (B.map itV) [] (ZO A s N) = some (B.map fun p => fq (v p.1), ZO A s' N) := by
  obtain ⟨r, O', hl, v, s', e1, e2, hv, hs⟩ := lcL_inv (g := gN 9) (e := mCall f__law_fraction [] (aCons (mVar 3) aNil)) (Γ := G none) (h := itV)
    (fun i acc O => ∃ (v : Str → Rat) (s' : Sst), acc = (B.take i).map (fun p => fq (v p.1)) ∧ O = ZO A s' N ∧ (∀ p ∈ B.take i, 0 < v p.1 ∧ zb 9 (v p.1)) ∧ Bd2 s' (b + 2 * i)) B 0 [] (ZO A s N) ⟨fun _ => 1, s, rfl, rfl, (by simp), by simpa using h⟩ (by
      rintro i p acc O hi ⟨v, s1, rfl, rfl, hv, hs1⟩
      rw [Nat.zero_add] at hv hs1 ⊢
      have hil := (List.getElem?_eq_some_iff.mp hi).1
      have h36 := hB.small
      obtain ⟨q, s2, q0, q1, h2, d2⟩ := fraction_okS A N s1 (b + 2 * i) hs1 (by omega)
      refine ⟨G (some (itV p)), fq q, ZO A s2 N, by show some ((G none).set 9 _) = _; rw [hs], r_call0 (r_cons (r_var (h3 _)) (by walk_at "tv go")) d2, set1 v p.1 q, s2, ?_, rfl, ?_, ?_⟩
      · rw [List.take_add_one, hi, Option.toList_some, List.map_append]
        congr 1
        · apply List.map_congr_left
          intro z hz
          rw [set_ne _ _ (notin_take hB.nd hi z hz)]
        · simp [set_same]
      · intro z hz
        rw [List.take_add_one, hi, Option.toList_some, List.mem_append, List.mem_singleton] at hz
        rcases hz with hz | rfl
        · rw [set_ne _ _ (notin_take hB.nd hi z hz)]; exact hv z hz
        · rw [set_same]; exact ⟨q0, q1⟩
      · have : (((i + 1 : Nat)) : Int) = (i : Int) + 1 := by omega
        rw [this, show b + 2 * ((i : Int) + 1) = b + 2 * i + 2 by omega]; exact h2)
  rw [Nat.zero_add, List.take_length] at e1 hv
  rw [Nat.zero_add] at hs
  subst e1 e2
  exact ⟨v, s', hv, hs, hl⟩
theorem ne_bd0 (O : So) : neV O (bdV B) (.tup []) = some (.bool (decide (B ≠ []))) := by
  have h := eq_bd (B := B) O
  unfold eqV at h
  unfold neV
  split at h
  · rename_i hp
    rw [if_pos hp]
    have := Va.bool.inj (Option.some.inj h)
    rw [this]
    simp
  · cases h
def fbN : Nat → Nat × Nat
  | 0 => (40, 40)
  | k + 1 => ((fbN k).1 + (fbN k).2 + 8, (fbN k).1 + 8)
theorem fbN_ok : ∀ i, i < 6 → (fbN i).1 + (fbN i).2 + 8 ≤ 1900 := by decide
theorem enum_map {α : Type} (f : α → Va) (l : List α) : ((l.map f).mapIdx fun i x => Va.tup [.int (i : Int), x]) = (l.mapIdx fun i x => (i, x)).map fun p => Va.tup [.int (p.1 : Int), f p.2] := by
  apply List.ext_getElem?
  intro k
  simp only [List.getElem?_mapIdx, List.getElem?_map, Option.map_map]
  rfl
theorem sl_takeL (O : So) {α : Type} (f : α → Va) (xs : List α) (j : Nat) : slV O (.lst (xs.map f)) none (some (j : Int)) = some (.lst ((xs.take j).map f)) := by
  have h := sl_take O (xs.map f) j
  have h1 : slV O (.tup (xs.map f)) none (some (j : Int)) = some (.tup (cut (xs.map f) none (some (j : Int)))) := rfl
  rw [h1] at h
  have := Va.tup.inj (Option.some.inj h)
  show some (Va.lst (cut (xs.map f) none (some (j : Int)))) = _
  rw [this, List.map_take]
theorem ix_bd (O : So) {k : Nat} {p : Str × List Str} (h : B[k]? = some p) : ixV O (bdV B) (.int (k : Int)) = some (itV p) := ix_get (by rw [List.getElem?_map, h]; rfl)
theorem hst0 (B : Bd) (h : B.length ≤ 8) : wS B (fun _ => 4) ≤ 40 := by rw [wS_const]; omega
theorem law_true : ∀ (ns : List Int), ns.length ≤ 63 → (∀ z ∈ ns, z.natAbs < 2 ^ 1048576) → ∃ O', f_law [.lst (ns.map Va.int)] [] = some (.bool true, O') := by
  intro ns hn _
  have sl : 1000 ≤ sizeLine := by decide
  obtain ⟨Γ', O', hf, x1, x2, x3, x4, x5, x6, x7, x8, x9, x10, rfl⟩ := for_inv (g := gT (gCs (gN 1) (gCs (gN 2) gNl))) (h := fun p : Nat × Int => Va.tup [.int (p.1 : Int), .int p.2]) (b := l_law_2) (xs := ((ns ++ [0]).take 6).mapIdx fun i x => (i, x)) (Γ := [some (.lst (ns.map Va.int)), none, none, none, none, none, none, none, none, none, none]) (O := [])
    (fun i Γ O' => ∃ x1 x2 x3 x4 x5 x6 x7 x8 x9 x10 : Option Va, Γ = [some (.lst (ns.map Va.int)), x1, x2, x3, x4, x5, x6, x7, x8, x9, x10]) ⟨none, none, none, none, none, none, none, none, none, none, rfl⟩ (by
      rintro i ⟨k, z⟩ Γ O hi ⟨x1, x2, x3, x4, x5, x6, x7, x8, x9, x10, rfl⟩
      have hil := (List.getElem?_eq_some_iff.mp hi).1
      rw [List.getElem?_mapIdx] at hi
      have hk : k = i := by
        cases hq : ((ns ++ [0]).take 6)[i]? with
        | none => rw [hq] at hi; cases hi
        | some y => rw [hq] at hi; cases hi; rfl
      subst hk
      have hk6 : k < 6 := by simp at hil; omega
      obtain ⟨s1, h1, d1⟩ := stream_ok z (k : Int) (by omega) (by omega) O
      obtain ⟨B, L, s2, hB, hl8, h2, d2⟩ := poset_ok O [] s1 0 8 (by decide) h1 (by decide)
      obtain ⟨v, s3, hv, h3, d3⟩ := fracsS hB (A := O) (N := []) (G := fun x => [some (.lst (ns.map Va.int)), some (nV k), some (.int z), some (.ref O.length), some (bdV B), x5, x6, x7, x8, x, x10]) (fun _ => rfl) (fun _ _ => rfl) s2 (0 + 100) h2 (by decide)
      have hl8' : (B.length : Int) ≤ 8 := by omega
      obtain ⟨f, s4, f0, fz, h4, d4⟩ := fraction_okS O [] s3 (0 + 100 + 2 * B.length) h3 (by omega)
      obtain ⟨g, s5, g0, gz, h5, d5⟩ := fraction_okS O [] s4 (0 + 100 + 2 * B.length + 2) h4 (by omega)
      obtain ⟨x, s6, q0, qz, h6, d6⟩ := fraction_okS O [] s5 (0 + 100 + 2 * B.length + 2 + 2) h5 (by omega)
      obtain ⟨y, s7, y0, y1, h7, d7⟩ := draw_okS O [] s6 (0 + 100 + 2 * B.length + 2 + 2 + 2) 6 h6 (by omega) (by decide) (by decide)
      have fs : sz 4 f := fz.sz (by decide)
      have gs : sz 4 g := gz.sz (by decide)
      have qs : sz 4 x := qz.sz (by decide)
      have P : Pos B v f g := ⟨fun q hq => (hv q hq).1, f0, g0⟩
      have hcnt : ∃ m : Nat, m ≤ 6 ∧ (B = [] → m = 0) ∧ ∀ O, mulV O (.int (1 + y)) (.int (if decide (B ≠ []) = true then 1 else 0)) = some (nV m) := by
        by_cases e : B = []
        · refine ⟨0, by omega, fun _ => rfl, fun O => ?_⟩
          rw [decide_eq_false (by simpa using e), if_neg (by decide), mul_sm O (small (k := 10) (by omega) (by decide)) (small (k := 10) (by decide) (by decide)), Int.mul_zero]
          rfl
        · refine ⟨(1 + y).toNat, by omega, fun h => absurd h e, fun O => ?_⟩
          rw [decide_eq_true e, if_pos rfl, mul_sm O (small (k := 10) (by omega) (by decide)) (small (k := 10) (by decide) (by decide)), Int.mul_one]
          unfold nV
          congr 2
          omega
      obtain ⟨m, m6, mB0, hm⟩ := hcnt
      obtain ⟨Γ2, O2, hf2, v', t', st, y6, y9, y10, e1, e2, e3, e4, e5, e6⟩ := for_inv (g := gN 6) (h := nV) (b := l_law_1) (xs := List.range m) (Γ := [some (.lst (ns.map Va.int)), some (nV k), some (.int z), some (.ref O.length), some (bdV B), some (labV B v), x6, some (bnV f g), some (fq x), x9, x10]) (O := ZO O s7 [])
        (fun i Γ O' => ∃ (v : Str → Rat) (t : Str → Nat) (st : Sst) (y6 y9 y10 : Option Va), Γ = [some (.lst (ns.map Va.int)), some (nV k), some (.int z), some (.ref O.length), some (bdV B), some (labV B v), y6, some (bnV f g), some (fq x), y9, y10] ∧ O' = ZO O st [] ∧ Pos B v f g ∧ (∀ c ∈ nms B, sz (t c) (v c)) ∧ Fb B t (fbN i).1 (fbN i).2 ∧ Bd2 st (200 + 2 * i)) ⟨v, fun _ => 4, s7, x6, x9, x10, rfl, rfl, P, fun c hc => by
          obtain ⟨p, hp, rfl⟩ := mem_nms hc
          exact (hv p hp).2.sz (n := 4) (by decide), Fb.start (hst0 B hl8), ⟨h7.1, by have := h7.2; omega⟩⟩ (by
          rintro i i' Γ O' hi ⟨v, t, st, y6, y9, y10, rfl, rfl, P, hs, F, hst⟩
          have hil := (List.getElem?_eq_some_iff.mp hi)
          have e0 : i' = i := by have := hil.2; simpa using this.symm
          subst e0
          have hi2 : i' < m := by simpa using hil.1
          have hne : B ≠ [] := fun e => by have := mB0 e; omega
          have hlp : 0 < B.length := List.length_pos_iff.mpr hne
          obtain ⟨a, u1, a0, a1, g1, w1⟩ := draw_okS O [] st (200 + 2 * i') B.length hst (by omega) (by omega) (by omega)
          obtain ⟨c, u2, c0, c1, g2, w2⟩ := draw_okS O [] u1 (200 + 2 * i' + 1) B.length g1 (by omega) (by omega) (by omega)
          obtain ⟨an, rfl⟩ : ∃ n : Nat, a = (n : Int) := ⟨a.toNat, by omega⟩
          obtain ⟨cn', rfl⟩ : ∃ n : Nat, c = (n : Int) := ⟨c.toNat, by omega⟩
          have ea : B[an]? = some B[an] := List.getElem?_eq_getElem (by omega)
          have ec : B[cn']? = some B[cn'] := List.getElem?_eq_getElem (by omega)
          have hca : B[an].1 ∈ nms B := List.mem_map.mpr ⟨_, List.getElem_mem _, rfl⟩
          have hcc : B[cn'].1 ∈ nms B := List.mem_map.mpr ⟨_, List.getElem_mem _, rfl⟩
          have hS := fbN_ok i' (by omega)
          obtain ⟨t', ht', F'⟩ := tog_sz hB P hca hs fs gs F
          have st1 := step_right_ok hB hl8 P hca hs F hS fs gs q0 qs
          have ex1 := exchange_right_ok hB P hca hcc hs F hS fs gs
          have lt1 := ltog_ok hB P hca hs (by have := F.all; omega) fs gs (by omega) (by omega)
          refine ⟨_, [some (.lst (ns.map Va.int)), some (nV k), some (.int z), some (.ref O.length), some (bdV B), some (labV B (set1 v B[an].1 (tg B v f g B[an].1))), some (nV i'), some (bnV f g), some (fq x), some (.str B[an].1), some (.str B[cn'].1)], ZO O u2 [], rfl, ?_, _, t', u2, _, _, _, rfl, rfl, P.set (tg_pos hB P hca) _, ht', F', ⟨g2.1, by have := g2.2; omega⟩⟩
          unfold l_law_1
          exact r_seq (r_par (r_cons (r_op (r_op (by walk_at "tv go") (r_call0 (r_cons (by walk_at "tv go") (r_cons (r_cb (by walk_at "tv go") (len_bd _)) (by walk_at "tv go"))) w1) (ix_bd _ ea)) (by walk_at "tv go") (ix_t0 _ _ _)) (r_cons (r_op (r_op (by walk_at "tv go") (r_call0 (r_cons (by walk_at "tv go") (r_cons (r_cb (by walk_at "tv go") (len_bd _)) (by walk_at "tv go"))) w2) (ix_bd _ ec)) (by walk_at "tv go") (ix_t0 _ _ _)) (by walk_at "tv go")))) (r_seq (r_sif0 (r_tnot (p := true) (r_b (r_call0 (by walk_at "tv go") (st1 _)))) (by walk_at "tv go")) (r_seq (r_sif0 (r_tnot (p := true) (r_b (r_call0 (by walk_at "tv go") (ex1 _)))) (by walk_at "tv go")) (r_asg (v := labV B (set1 v B[an].1 (tg B v f g B[an].1))) (r_call0 (by walk_at "tv go") (lt1 _)) (by rfl)))))
      refine ⟨_, Γ2, O2, rfl, ?_, ?_⟩
      · unfold l_law_2
        refine r_seq (r_asgN (r_call0 (by walk_at "tv go") d1)) (r_seq (r_asgN (r_call0 (xs := [.ref O.length, .int ((8 : Nat) : Int)]) (by walk_at "tv go") d2)) (r_seq (r_asgN (v := labV B v) (r_cb (r_cons (r_lc (r_it (by walk_at "tv go") its_bd) (by rw [List.length_map]; exact len36 hB.small) d3) (by walk_at "tv go")) rfl)) (r_seq (r_par (r_cons (x := bnV f g) (r_tup (r_cons (r_call0 (by walk_at "tv go") d4) (r_cons (r_call0 (by walk_at "tv go") d5) (by walk_at "tv go"))) (by exact sl_2)) (r_cons (r_call0 (by walk_at "tv go") d6) (by walk_at "tv go")))) (r_for (r_x (ys := (List.range m).map nV) (r_cons (r_op (r_op (by walk_at "tv go") (r_call0 (by walk_at "tv go") d7) (add_ii _ _ _)) (r_cb (r_cons (r_op (by walk_at "tv go") (r_tup (by walk_at "tv go") (by decide)) (ne_bd0 _)) (by walk_at "tv go")) rfl) (hm _)) (by walk_at "tv go")) (rng_ok m (by omega))) hf2))))
      · rw [e1]
        exact ⟨_, _, _, _, _, _, _, _, _, _, rfl⟩)
  refine ⟨gc [] (.bool true) O', ?_⟩
  unfold f_law
  refine r_fn rfl ?_
  unfold b_law
  refine r_seq (r_for (r_x (ys := (((ns ++ [0]).take 6).mapIdx fun i x => (i, x)).map fun p : Nat × Int => Va.tup [.int (p.1 : Int), .int p.2]) (r_cons (r_sl (r_op (by walk_at "tv go") (r_lst (by walk_at "tv go") (by exact sl_1)) (v := .lst ((ns ++ [0]).map Va.int)) ?_) (by walk_at "tv go") (r_some (by walk_at "tv go")) (sl_takeL _ Va.int (ns ++ [0]) 6)) (by walk_at "tv go")) ?_) hf) (r_ret (by walk_at "tv go"))
  · rw [add_lst _ (by simp; omega)]
    simp
  · rw [← enum_map]
    rfl
end
end TV
end
section
set_option Elab.async false
set_option linter.all false
set_option maxRecDepth 100000
set_option maxHeartbeats 4000000
namespace TV
open PySem L2
def top (i : Nat) : Stmt := PySem.Challenge.pw_turnboard_k07_whole_edge_sum_invariant.main.body.getD i (.Pass ⟨0, 0, 0, 0⟩)
abbrev s_is_integer : Stmt := top 9
theorem sc_is_integer : FnScope ["value", "least", "most"] ["value", "least", "most"] (defScope s_is_integer) := ⟨rfl, rfl, rfl, by decide +kernel, rfl, by decide +kernel, by decide +kernel⟩
abbrev s_greatest_common_divisor : Stmt := top 10
theorem sc_greatest_common_divisor : FnScope ["first", "second"] ["first", "second"] (defScope s_greatest_common_divisor) := ⟨rfl, rfl, rfl, by decide +kernel, rfl, by decide +kernel, by decide +kernel⟩
abbrev s_is_fraction : Stmt := top 11
theorem sc_is_fraction : FnScope ["value", "part"] ["value"] (defScope s_is_fraction) := ⟨rfl, rfl, rfl, by decide +kernel, rfl, by decide +kernel, by decide +kernel⟩
abbrev s_reduced : Stmt := top 12
theorem sc_reduced : FnScope ["numerator", "denominator", "divisor"] ["numerator", "denominator"] (defScope s_reduced) := ⟨rfl, rfl, rfl, by decide +kernel, rfl, by decide +kernel, by decide +kernel⟩
abbrev s_check_two : Stmt := top 13
theorem sc_check_two : FnScope ["first", "second", "position", "value"] ["first", "second"] (defScope s_check_two) := ⟨rfl, rfl, rfl, by decide +kernel, rfl, by decide +kernel, by decide +kernel⟩
abbrev s_reciprocal : Stmt := top 14
theorem sc_reciprocal : FnScope ["value"] ["value"] (defScope s_reciprocal) := ⟨rfl, rfl, rfl, by decide +kernel, rfl, by decide +kernel, by decide +kernel⟩
abbrev s_sum_of_two : Stmt := top 15
theorem sc_sum_of_two : FnScope ["first", "second"] ["first", "second"] (defScope s_sum_of_two) := ⟨rfl, rfl, rfl, by decide +kernel, rfl, by decide +kernel, by decide +kernel⟩
abbrev s_product_of_two : Stmt := top 16
theorem sc_product_of_two : FnScope ["first", "second"] ["first", "second"] (defScope s_product_of_two) := ⟨rfl, rfl, rfl, by decide +kernel, rfl, by decide +kernel, by decide +kernel⟩
abbrev s_add : Stmt := top 17
theorem sc_add : FnScope ["first", "second"] ["first", "second"] (defScope s_add) := ⟨rfl, rfl, rfl, by decide +kernel, rfl, by decide +kernel, by decide +kernel⟩
abbrev s_multiply : Stmt := top 18
theorem sc_multiply : FnScope ["first", "second"] ["first", "second"] (defScope s_multiply) := ⟨rfl, rfl, rfl, by decide +kernel, rfl, by decide +kernel, by decide +kernel⟩
abbrev s_divide : Stmt := top 19
theorem sc_divide : FnScope ["first", "second"] ["first", "second"] (defScope s_divide) := ⟨rfl, rfl, rfl, by decide +kernel, rfl, by decide +kernel, by decide +kernel⟩
abbrev s_parallel_sum : Stmt := top 20
theorem sc_parallel_sum : FnScope ["values", "total", "value", "position"] ["values"] (defScope s_parallel_sum) := ⟨rfl, rfl, rfl, by decide +kernel, rfl, by decide +kernel, by decide +kernel⟩
abbrev s_is_cell : Stmt := top 27
theorem sc_is_cell : FnScope ["value", "sign"] ["value"] (defScope s_is_cell) := ⟨rfl, rfl, rfl, by decide +kernel, rfl, by decide +kernel, by decide +kernel⟩
abbrev s_is_ascending : Stmt := top 28
theorem sc_is_ascending : FnScope ["values", "first", "second"] ["values"] (defScope s_is_ascending) := ⟨rfl, rfl, rfl, by decide +kernel, rfl, by decide +kernel, by decide +kernel⟩
abbrev s_is_item : Stmt := top 29
theorem sc_is_item : FnScope ["value", "cell"] ["value"] (defScope s_is_item) := ⟨rfl, rfl, rfl, by decide +kernel, rfl, by decide +kernel, by decide +kernel⟩
abbrev s_cells_below : Stmt := top 30
theorem sc_cells_below : FnScope ["board", "covers", "found", "start", "reached", "pending", "cell"] ["board"] (defScope s_cells_below) := ⟨rfl, rfl, rfl, by decide +kernel, rfl, by decide +kernel, by decide +kernel⟩
abbrev s_check_board : Stmt := top 31
theorem sc_check_board : FnScope ["board", "covers", "known", "position", "item", "cell", "other"] ["board"] (defScope s_check_board) := ⟨rfl, rfl, rfl, by decide +kernel, rfl, by decide +kernel, by decide +kernel⟩
abbrev s_check_labels : Stmt := top 32
theorem sc_check_labels : FnScope ["board", "labels", "position", "value"] ["board", "labels"] (defScope s_check_labels) := ⟨rfl, rfl, rfl, by decide +kernel, rfl, by decide +kernel, by decide +kernel⟩
abbrev s_check_bounds : Stmt := top 33
theorem sc_check_bounds : FnScope ["bounds", "position", "value"] ["bounds"] (defScope s_check_bounds) := ⟨rfl, rfl, rfl, by decide +kernel, rfl, by decide +kernel, by decide +kernel⟩
abbrev s_check_cell : Stmt := top 34
theorem sc_check_cell : FnScope ["board", "cell"] ["board", "cell"] (defScope s_check_cell) := ⟨rfl, rfl, rfl, by decide +kernel, rfl, by decide +kernel, by decide +kernel⟩
abbrev s_lower_covers : Stmt := top 35
theorem sc_lower_covers : FnScope ["board", "cell"] ["board", "cell"] (defScope s_lower_covers) := ⟨rfl, rfl, rfl, by decide +kernel, rfl, by decide +kernel, by decide +kernel⟩
abbrev s_upper_covers : Stmt := top 36
theorem sc_upper_covers : FnScope ["board", "cell", "other", "covers"] ["board", "cell"] (defScope s_upper_covers) := ⟨rfl, rfl, rfl, by decide +kernel, rfl, by decide +kernel, by decide +kernel⟩
abbrev s_maximal_cells : Stmt := top 37
theorem sc_maximal_cells : FnScope ["board", "covered", "lower", "cell", "covers"] ["board"] (defScope s_maximal_cells) := ⟨rfl, rfl, rfl, by decide +kernel, rfl, by decide +kernel, by decide +kernel⟩
abbrev s_neighbour_labels : Stmt := top 38
theorem sc_neighbour_labels : FnScope ["board", "labels", "bounds", "known", "pairs", "cell", "covers", "below", "value", "lower"] ["board", "labels", "bounds"] (defScope s_neighbour_labels) := ⟨rfl, rfl, rfl, by decide +kernel, rfl, by decide +kernel, by decide +kernel⟩
abbrev s_edge_sum : Stmt := top 39
theorem sc_edge_sum : FnScope ["board", "labels", "bounds", "parts", "total", "part", "lower", "upper"] ["board", "labels", "bounds"] (defScope s_edge_sum) := ⟨rfl, rfl, rfl, by decide +kernel, rfl, by decide +kernel, by decide +kernel⟩
abbrev s_board_from : Stmt := top 41
theorem sc_board_from : FnScope ["covers", "cell"] ["covers"] (defScope s_board_from) := ⟨rfl, rfl, rfl, by decide +kernel, rfl, by decide +kernel, by decide +kernel⟩
abbrev s_dual : Stmt := top 42
theorem sc_dual : FnScope ["board", "covers", "cell", "lower", "other"] ["board"] (defScope s_dual) := ⟨rfl, rfl, rfl, by decide +kernel, rfl, by decide +kernel, by decide +kernel⟩
abbrev s_dual_labels : Stmt := top 43
theorem sc_dual_labels : FnScope ["board", "labels", "value"] ["board", "labels"] (defScope s_dual_labels) := ⟨rfl, rfl, rfl, by decide +kernel, rfl, by decide +kernel, by decide +kernel⟩
abbrev s__law_mixed : Stmt := top 45
theorem sc__law_mixed : FnScope ["_law_number", "_law_k"] ["_law_number", "_law_k"] (defScope s__law_mixed) := ⟨rfl, rfl, rfl, by decide +kernel, rfl, by decide +kernel, by decide +kernel⟩
abbrev s__law_stream : Stmt := top 46
theorem sc__law_stream : FnScope ["_law_item", "_law_k"] ["_law_item", "_law_k"] (defScope s__law_stream) := ⟨rfl, rfl, rfl, by decide +kernel, rfl, by decide +kernel, by decide +kernel⟩
abbrev s__law_draw : Stmt := top 47
theorem sc__law_draw : FnScope ["_law_stream_here", "_law_top", "_law_number"] ["_law_stream_here", "_law_top"] (defScope s__law_draw) := ⟨rfl, rfl, rfl, by decide +kernel, rfl, by decide +kernel, by decide +kernel⟩
abbrev s__law_lowest : Stmt := top 48
theorem sc__law_lowest : FnScope ["_law_above", "_law_below", "_law_one", "_law_two"] ["_law_above", "_law_below"] (defScope s__law_lowest) := ⟨rfl, rfl, rfl, by decide +kernel, rfl, by decide +kernel, by decide +kernel⟩
abbrev s__law_fraction : Stmt := top 49
theorem sc__law_fraction : FnScope ["_law_stream_here"] ["_law_stream_here"] (defScope s__law_fraction) := ⟨rfl, rfl, rfl, by decide +kernel, rfl, by decide +kernel, by decide +kernel⟩
abbrev s__law_cells : Stmt := top 50
theorem sc__law_cells : FnScope ["_law_stream_here", "_law_size", "_law_letters", "_law_start", "_law_found", "_law_k", "_law_shift", "_law_step", "_law_way", "_law_sign"] ["_law_stream_here", "_law_size"] (defScope s__law_cells) := ⟨rfl, rfl, rfl, by decide +kernel, rfl, by decide +kernel, by decide +kernel⟩
abbrev s__law_poset : Stmt := top 51
theorem sc__law_poset : FnScope ["_law_stream_here", "_law_limit", "_law_k", "_law_items", "_law_size", "_law_dense", "_law_spots", "_law_deeper", "_law_covers", "_law_direct", "_law_every", "_law_hidden", "_law_j"] ["_law_stream_here", "_law_limit"] (defScope s__law_poset) := ⟨rfl, rfl, rfl, by decide +kernel, rfl, by decide +kernel, by decide +kernel⟩
abbrev s__law_toggled : Stmt := top 52
theorem sc__law_toggled : FnScope ["_law_poset_here", "_law_marks", "_law_spot", "_law_ends", "_law_place", "_law_below", "_law_above", "_law_total", "_law_one", "_law_far", "_law_at", "_law_k"] ["_law_poset_here", "_law_marks", "_law_spot", "_law_ends"] (defScope s__law_toggled) := ⟨rfl, rfl, rfl, by decide +kernel, rfl, by decide +kernel, by decide +kernel⟩
abbrev s__law_step_right : Stmt := top 53
theorem sc__law_step_right : FnScope ["_law_poset_here", "_law_marks", "_law_spot", "_law_ends", "_law_factor", "_law_fresh", "_law_far", "_law_wide", "_law_due", "_law_one"] ["_law_poset_here", "_law_marks", "_law_spot", "_law_ends", "_law_factor"] (defScope s__law_step_right) := ⟨rfl, rfl, rfl, by decide +kernel, rfl, by decide +kernel, by decide +kernel⟩
abbrev s__law_exchange_right : Stmt := top 54
theorem sc__law_exchange_right : FnScope ["_law_poset_here", "_law_marks", "_law_one", "_law_two", "_law_ends", "_law_first"] ["_law_poset_here", "_law_marks", "_law_one", "_law_two", "_law_ends"] (defScope s__law_exchange_right) := ⟨rfl, rfl, rfl, by decide +kernel, rfl, by decide +kernel, by decide +kernel⟩
abbrev s_law : Stmt := top 55
theorem sc_law : FnScope ["_law_script", "_law_k", "_law_item", "_law_stream_here", "_law_poset_here", "_law_marks", "_law_turn", "_law_ends", "_law_factor", "_law_spot", "_law_other"] ["_law_script"] (defScope s_law) := ⟨rfl, rfl, rfl, by decide +kernel, rfl, by decide +kernel, by decide +kernel⟩
structure Top (K : PySem.W.Frag) (mg : Str → Option Value) : Prop where
  t_is_integer : TopV K mg "is_integer" s_is_integer [("least", (.int 0)), ("most", .none)]
  t_greatest_common_divisor : TopV K mg "greatest_common_divisor" s_greatest_common_divisor []
  t_is_fraction : TopV K mg "is_fraction" s_is_fraction []
  t_reduced : TopV K mg "reduced" s_reduced []
  t_check_two : TopV K mg "check_two" s_check_two []
  t_reciprocal : TopV K mg "reciprocal" s_reciprocal []
  t_sum_of_two : TopV K mg "sum_of_two" s_sum_of_two []
  t_product_of_two : TopV K mg "product_of_two" s_product_of_two []
  t_add : TopV K mg "add" s_add []
  t_multiply : TopV K mg "multiply" s_multiply []
  t_divide : TopV K mg "divide" s_divide []
  t_parallel_sum : TopV K mg "parallel_sum" s_parallel_sum []
  t_is_cell : TopV K mg "is_cell" s_is_cell []
  t_is_ascending : TopV K mg "is_ascending" s_is_ascending []
  t_is_item : TopV K mg "is_item" s_is_item []
  t_cells_below : TopV K mg "cells_below" s_cells_below []
  t_check_board : TopV K mg "check_board" s_check_board []
  t_check_labels : TopV K mg "check_labels" s_check_labels []
  t_check_bounds : TopV K mg "check_bounds" s_check_bounds []
  t_check_cell : TopV K mg "check_cell" s_check_cell []
  t_lower_covers : TopV K mg "lower_covers" s_lower_covers []
  t_upper_covers : TopV K mg "upper_covers" s_upper_covers []
  t_maximal_cells : TopV K mg "maximal_cells" s_maximal_cells []
  t_neighbour_labels : TopV K mg "neighbour_labels" s_neighbour_labels []
  t_edge_sum : TopV K mg "edge_sum" s_edge_sum [("bounds", (.tup [(.tup [(.int 1), (.int 1)]), (.tup [(.int 1), (.int 1)])]))]
  t_board_from : TopV K mg "board_from" s_board_from []
  t_dual : TopV K mg "dual" s_dual []
  t_dual_labels : TopV K mg "dual_labels" s_dual_labels []
  t__law_mixed : TopV K mg "_law_mixed" s__law_mixed []
  t__law_stream : TopV K mg "_law_stream" s__law_stream []
  t__law_draw : TopV K mg "_law_draw" s__law_draw []
  t__law_lowest : TopV K mg "_law_lowest" s__law_lowest []
  t__law_fraction : TopV K mg "_law_fraction" s__law_fraction []
  t__law_cells : TopV K mg "_law_cells" s__law_cells []
  t__law_poset : TopV K mg "_law_poset" s__law_poset []
  t__law_toggled : TopV K mg "_law_toggled" s__law_toggled []
  t__law_step_right : TopV K mg "_law_step_right" s__law_step_right []
  t__law_exchange_right : TopV K mg "_law_exchange_right" s__law_exchange_right []
  t_law : TopV K mg "law" s_law []
  c_MAX_CELLS : GlobR K mg "MAX_CELLS" v_MAX_CELLS
  c_MAX_CELL_LENGTH : GlobR K mg "MAX_CELL_LENGTH" v_MAX_CELL_LENGTH
  c_UNIT_BOUNDS : GlobR K mg "UNIT_BOUNDS" v_UNIT_BOUNDS
  c_LETTERS : GlobR K mg "LETTERS" v_LETTERS
  c_DIGITS : GlobR K mg "DIGITS" v_DIGITS
  b_all : mg "all" = none
  b_any : mg "any" = none
  b_bool : mg "bool" = none
  b_dict : mg "dict" = none
  b_enumerate : mg "enumerate" = none
  b_int : mg "int" = none
  b_isinstance : mg "isinstance" = none
  b_len : mg "len" = none
  b_list : mg "list" = none
  b_range : mg "range" = none
  b_set : mg "set" = none
  b_sorted : mg "sorted" = none
  b_str : mg "str" = none
  b_sum : mg "sum" = none
  b_tuple : mg "tuple" = none
  b_zip : mg "zip" = none
section
variable {P : Program} {w : World} {K : PySem.W.Frag} {mg : Str → Option Value} {base : Heap}
open TB (FunS FnG)
theorem ok_is_integer (T : Top K mg) : ∀ kws f fd, FunS K "is_integer" s_is_integer [] kws f fd → FnG P w K mg base CX0 1 f fd ["value", "least", "most"] (spF K f_is_integer) := fun kws f fd F => def_okV F sc_is_integer fun X C =>
  (s_cons (s_if (PW.pt (dw_or (dt_not (dt_val (d_isi C.toCtx T.b_isinstance (d_var C.toCtx 0) T.b_int (by decide +kernel)))) (dw_or1 (dt_val (d_isi C.toCtx T.b_isinstance (d_var C.toCtx 0) T.b_bool (by decide +kernel)))))) (s_one (s_ret d_bl)) s_nil)
    (s_one (s_ret (d_and (d_le (d_var C.toCtx 1) (d_var C.toCtx 0)) (d_one (d_or (d_is (d_var C.toCtx 2) d_non) (d_one (d_le (d_var C.toCtx 0) (d_var C.toCtx 2)))))))))
theorem u_is_integer_1_least (T : Top K mg) : DefVN P w K mg base 1 "is_integer" 1 ["least"] g_is_integer_1_least f_is_integer := T.t_is_integer.useK (ok_is_integer T) ["least"] [1] (fun us mv ws => (us.take 1) ++ ((ws.drop 0).take 1) ++ ((mv.drop 0).take 1)) (by simp) (fun r1 r2 r3 => (((r1.take 1).append ((r3.drop 0).take 1)).append ((r2.drop 0).take 1))) (fun r1 r2 r3 => (((r1.take 1).append ((r3.drop 0).take 1)).append ((r2.drop 0).take 1))) (fun _ _ _ _ _ _ us mv ws h1 h2 h3 => match us, mv, ws, h1, h2, h3 with | [_], [_], [_], _, _, _ => ⟨_, _, _, _, _, _, rfl, rfl, rfl⟩)
theorem ok_greatest_common_divisor (T : Top K mg) : ∀ kws f fd, FunS K "greatest_common_divisor" s_greatest_common_divisor [] kws f fd → FnG P w K mg base CX0 1 f fd ["first", "second"] (spF K f_greatest_common_divisor) := fun kws f fd F => def_okV F sc_greatest_common_divisor fun X C =>
  (s_cons (s_while C.toCtx (dt_ne C.toCtx (d_var C.toCtx 1) d_int) (s_one (s_par C.toCtx 0 1 (d_cons (d_var C.toCtx 1) (d_cons (d_mod (d_var C.toCtx 0) (d_var C.toCtx 1)) d_nil)))))
    (s_one (s_ret (d_var C.toCtx 0))))
theorem u_greatest_common_divisor (T : Top K mg) : DefV P w K mg base 1 "greatest_common_divisor" f_greatest_common_divisor [] := T.t_greatest_common_divisor.use (ok_greatest_common_divisor T) (fun _ _ _ _ _ _ us hl => match us, hl with | [_, _], _ => rfl)
theorem ok_reciprocal (T : Top K mg) : ∀ kws f fd, FunS K "reciprocal" s_reciprocal [] kws f fd → FnG P w K mg base CX0 1 f fd ["value"] (spF K f_reciprocal) := fun kws f fd F => def_okV F sc_reciprocal fun X C =>
  (s_one (s_ret (d_tup (d_cons (d_ix C.toCtx (d_var C.toCtx 0) d_int) (d_cons (d_ix C.toCtx (d_var C.toCtx 0) d_int) d_nil)))))
theorem u_reciprocal (T : Top K mg) : DefV P w K mg base 1 "reciprocal" f_reciprocal [] := T.t_reciprocal.use (ok_reciprocal T) (fun _ _ _ _ _ _ us hl => match us, hl with | [_], _ => rfl)
theorem ok_is_cell (T : Top K mg) : ∀ kws f fd, FunS K "is_cell" s_is_cell [] kws f fd → FnG P w K mg base CX0 1 f fd ["value"] (spF K f_is_cell) := fun kws f fd F => def_okV F sc_is_cell fun X C =>
  (s_cons (s_if (PW.pt (dw_or (dt_not (dt_val (d_isi C.toCtx T.b_isinstance (d_var C.toCtx 0) T.b_str (by decide +kernel)))) (dw_or (dt_not (dt_chain op_leA op_leA sem_le sem_le d_int (d_len C.toCtx T.b_len (d_cons (d_var C.toCtx 0) d_nil)) (d_glob C.toCtx T.c_MAX_CELL_LENGTH))) (dw_or1 (dt_notin C.toCtx (d_ix C.toCtx (d_var C.toCtx 0) d_int) (d_glob C.toCtx T.c_LETTERS)))))) (s_one (s_ret d_bl)) s_nil)
    (s_one (s_ret (d_all C.toCtx T.b_all (d_cons (d_lkF (d_lcF C.toCtx [("sign", 1)] (i_it C.toCtx (d_var C.toCtx 0)) (gc_name (vs := [1]) 1) (fun X' C' => c_nil) (fun X' C' => (d_in C' (d_var C' 1) (d_add C' (d_glob C' T.c_LETTERS) (d_glob C' T.c_DIGITS)))))) d_nil)))))
theorem u_is_cell (T : Top K mg) : DefV P w K mg base 1 "is_cell" f_is_cell [] := T.t_is_cell.use (ok_is_cell T) (fun _ _ _ _ _ _ us hl => match us, hl with | [_], _ => rfl)
theorem ok_is_ascending (T : Top K mg) : ∀ kws f fd, FunS K "is_ascending" s_is_ascending [] kws f fd → FnG P w K mg base CX0 1 f fd ["values"] (spF K f_is_ascending) := fun kws f fd F => def_okV F sc_is_ascending fun X C =>
  (s_one (s_ret (d_all C.toCtx T.b_all (d_cons (d_lkF (d_lcF C.toCtx [("first", 1), ("second", 2)] (i_zip C.toCtx T.b_zip (d_cons (d_var C.toCtx 0) (d_cons (d_sl C.toCtx (d_var C.toCtx 0) (d_some d_int) d_none) d_nil))) (gc_tup (gc_cons (gc_name (vs := [1, 2]) 1) (gc_cons (gc_name (vs := [1, 2]) 2) gc_nil))) (fun X' C' => c_nil) (fun X' C' => (d_lt (d_var C' 1) (d_var C' 2))))) d_nil))))
theorem u_is_ascending (T : Top K mg) : DefV P w K mg base 1 "is_ascending" f_is_ascending [] := T.t_is_ascending.use (ok_is_ascending T) (fun _ _ _ _ _ _ us hl => match us, hl with | [_], _ => rfl)
theorem ok_cells_below (T : Top K mg) : ∀ kws f fd, FunS K "cells_below" s_cells_below [] kws f fd → FnG P w K mg base CX0 1 f fd ["board"] (spF K f_cells_below) := fun kws f fd F => def_okV F sc_cells_below fun X C =>
  (s_cons (s_set C 1 (d_lkF (d_dictF C.toCtx T.b_dict (d_cons (d_var C.toCtx 0) d_nil))))
    (s_cons (s_set C 2 (d_tr d_dnewF))
    (s_cons (s_for C.toCtx (i_it C.toCtx (d_var C.toCtx 1)) (g_name C (vs := [3]) 3) (s_cons (s_par C.toCtx 4 5 (d_cons (d_tr d_dnewF) (d_cons (d_tr (d_listF C.toCtx T.b_list (d_cons (d_ix C.toCtx (d_var C.toCtx 1) (d_var C.toCtx 3)) d_nil))) d_nil)))
    (s_cons (s_while C.toCtx (dt_ne C.toCtx (d_var C.toCtx 5) (d_lkF (d_lstF d_nil))) (s_cons (s_set C 6 (d_pop C.toCtx (d_var C.toCtx 5)))
    (s_one (s_if (dt_notin C.toCtx (d_var C.toCtx 6) (d_var C.toCtx 4)) (s_cons (s_setI C.toCtx (d_var C.toCtx 4) (d_var C.toCtx 6) d_bl)
    (s_one (s_expr (d_extend C.toCtx (d_var C.toCtx 5) (d_cons (d_ix C.toCtx (d_var C.toCtx 1) (d_var C.toCtx 6)) d_nil))))) s_nil))))
    (s_fz fz1_ok 4 (s_fz fz1_ok 5 (s_one (s_setI C.toCtx (d_var C.toCtx 2) (d_var C.toCtx 3) (d_var C.toCtx 4))))))))
    (s_fz fz1_ok 2 (s_one (s_ret (d_var C.toCtx 2)))))))
theorem u_cells_below (T : Top K mg) : DefV P w K mg base 1 "cells_below" f_cells_below [] := T.t_cells_below.use (ok_cells_below T) (fun _ _ _ _ _ _ us hl => match us, hl with | [_], _ => rfl)
theorem ok_maximal_cells (T : Top K mg) : ∀ kws f fd, FunS K "maximal_cells" s_maximal_cells [] kws f fd → FnG P w K mg base CX0 1 f fd ["board"] (spF K f_maximal_cells) := fun kws f fd F => def_okV F sc_maximal_cells fun X C =>
  (s_cons (s_dcC C 1 (d_lkF (d_dc2F C.toCtx [("cell", 3), ("covers", 4), ("lower", 2)] (i_it C.toCtx (d_var C.toCtx 0)) (DGc.pl (gc_tup (gc_cons (gc_name (vs := [3, 4, 2]) 3) (gc_cons (gc_name (vs := [3, 4, 2]) 4) gc_nil)))) (fun X' C' => c_nil) (fun X' C' => (i_it C' (d_var C' 4))) (gc_name (vs := [2]) 2) (fun X' C' => c_nil) (fun X' C' => (d_var C' 2)) (fun X' C' => d_bl))))
    (s_one (s_ret (d_lkF (d_lcF C.toCtx [("cell", 3), ("covers", 4)] (i_it C.toCtx (d_var C.toCtx 0)) (DGc.pl (gc_tup (gc_cons (gc_name (vs := [3, 4]) 3) (gc_cons (gc_name (vs := [3, 4]) 4) gc_nil)))) (fun X' C' => (c_one (dt_notin C' (d_var C' 3) (d_var C' 1)))) (fun X' C' => (d_var C' 3)))))))
theorem u_maximal_cells (T : Top K mg) : DefV P w K mg base 1 "maximal_cells" f_maximal_cells [] := T.t_maximal_cells.use (ok_maximal_cells T) (fun _ _ _ _ _ _ us hl => match us, hl with | [_], _ => rfl)
theorem ok_board_from (T : Top K mg) : ∀ kws f fd, FunS K "board_from" s_board_from [] kws f fd → FnG P w K mg base CX0 1 f fd ["covers"] (spF K f_board_from) := fun kws f fd F => def_okV F sc_board_from fun X C =>
  (s_one (s_ret (d_tuple C.toCtx T.b_tuple (d_cons (d_lkF (d_lcF C.toCtx [("cell", 1)] (i_it C.toCtx (d_lkF (d_sortedF C.toCtx T.b_sorted (d_cons (d_var C.toCtx 0) d_nil)))) (gc_name (vs := [1]) 1) (fun X' C' => c_nil) (fun X' C' => (d_tup (d_cons (d_var C' 1) (d_cons (d_tuple C' T.b_tuple (d_cons (d_lkF (d_sortedF C' T.b_sorted (d_cons (d_ix C' (d_var C' 0) (d_var C' 1)) d_nil))) d_nil)) d_nil)))))) d_nil))))
theorem u_board_from (T : Top K mg) : DefV P w K mg base 1 "board_from" f_board_from [] := T.t_board_from.use (ok_board_from T) (fun _ _ _ _ _ _ us hl => match us, hl with | [_], _ => rfl)
theorem ok__law_mixed (T : Top K mg) : ∀ kws f fd, FunS K "_law_mixed" s__law_mixed [] kws f fd → FnG P w K mg base CX0 1 f fd ["_law_number", "_law_k"] (spF K f__law_mixed) := fun kws f fd F => def_okV F sc__law_mixed fun X C =>
  (s_cons (s_set C 0 (d_mod (d_mul C.toCtx (d_add C.toCtx (d_add C.toCtx (d_mod (d_var C.toCtx 0) d_int) (d_mul C.toCtx (d_mul C.toCtx d_int (d_var C.toCtx 1)) (d_var C.toCtx 1))) (d_mul C.toCtx d_int (d_var C.toCtx 1))) d_int) d_int))
    (s_one (s_ret (d_mod (d_mul C.toCtx (d_var C.toCtx 0) (d_add C.toCtx d_int (d_mul C.toCtx d_int (d_var C.toCtx 1)))) d_int))))
theorem u__law_mixed (T : Top K mg) : DefV P w K mg base 1 "_law_mixed" f__law_mixed [] := T.t__law_mixed.use (ok__law_mixed T) (fun _ _ _ _ _ _ us hl => match us, hl with | [_, _], _ => rfl)
theorem ok__law_lowest (T : Top K mg) : ∀ kws f fd, FunS K "_law_lowest" s__law_lowest [] kws f fd → FnG P w K mg base CX0 1 f fd ["_law_above", "_law_below"] (spF K f__law_lowest) := fun kws f fd F => def_okV F sc__law_lowest fun X C =>
  (s_cons (s_par C.toCtx 2 3 (d_cons (d_var C.toCtx 0) (d_cons (d_var C.toCtx 1) d_nil)))
    (s_cons (s_while C.toCtx (dt_ne C.toCtx (d_var C.toCtx 3) d_int) (s_one (s_par C.toCtx 2 3 (d_cons (d_var C.toCtx 3) (d_cons (d_mod (d_var C.toCtx 2) (d_var C.toCtx 3)) d_nil)))))
    (s_one (s_ret (d_tup (d_cons (d_div (d_var C.toCtx 0) (d_var C.toCtx 2)) (d_cons (d_div (d_var C.toCtx 1) (d_var C.toCtx 2)) d_nil)))))))
theorem u__law_lowest (T : Top K mg) : DefV P w K mg base 1 "_law_lowest" f__law_lowest [] := T.t__law_lowest.use (ok__law_lowest T) (fun _ _ _ _ _ _ us hl => match us, hl with | [_, _], _ => rfl)
theorem ok_is_fraction (T : Top K mg) : ∀ kws f fd, FunS K "is_fraction" s_is_fraction [] kws f fd → FnG P w K mg base CX0 2 f fd ["value"] (spF K f_is_fraction) := fun kws f fd F => def_okV F sc_is_fraction fun X C =>
  (s_cons (s_if (PW.pt (dw_or (dt_not (dt_val (d_isi C.toCtx T.b_isinstance (d_var C.toCtx 0) T.b_tuple (by decide +kernel)))) (dw_or (dt_ne C.toCtx (d_len C.toCtx T.b_len (d_cons (d_var C.toCtx 0) d_nil)) d_int) (dw_or1 (dt_not (dt_val (d_all C.toCtx T.b_all (d_cons (d_lkF (d_lcF C.toCtx [("part", 1)] (i_it C.toCtx (d_var C.toCtx 0)) (gc_name (vs := [1]) 1) (fun X' C' => c_nil) (fun X' C' => (d_callN C' (u_is_integer_1_least T) (d_cons (d_var C' 1) d_nil) (k_cons d_int k_nil))))) d_nil)))))))) (s_one (s_ret d_bl)) s_nil)
    (s_one (s_ret (d_eq C.toCtx (d_call C.toCtx (u_greatest_common_divisor T) (d_cons (d_ix C.toCtx (d_var C.toCtx 0) d_int) (d_cons (d_ix C.toCtx (d_var C.toCtx 0) d_int) d_nil))) d_int))))
theorem u_is_fraction (T : Top K mg) : DefV P w K mg base 2 "is_fraction" f_is_fraction [] := T.t_is_fraction.use (ok_is_fraction T) (fun _ _ _ _ _ _ us hl => match us, hl with | [_], _ => rfl)
theorem ok_reduced (T : Top K mg) : ∀ kws f fd, FunS K "reduced" s_reduced [] kws f fd → FnG P w K mg base CX0 2 f fd ["numerator", "denominator"] (spF K f_reduced) := fun kws f fd F => def_okV F sc_reduced fun X C =>
  (s_cons (s_set C 2 (d_call C.toCtx (u_greatest_common_divisor T) (d_cons (d_var C.toCtx 0) (d_cons (d_var C.toCtx 1) d_nil))))
    (s_one (s_ret (d_tup (d_cons (d_div (d_var C.toCtx 0) (d_var C.toCtx 2)) (d_cons (d_div (d_var C.toCtx 1) (d_var C.toCtx 2)) d_nil))))))
theorem u_reduced (T : Top K mg) : DefV P w K mg base 2 "reduced" f_reduced [] := T.t_reduced.use (ok_reduced T) (fun _ _ _ _ _ _ us hl => match us, hl with | [_, _], _ => rfl)
theorem ok_is_item (T : Top K mg) : ∀ kws f fd, FunS K "is_item" s_is_item [] kws f fd → FnG P w K mg base CX0 2 f fd ["value"] (spF K f_is_item) := fun kws f fd F => def_okV F sc_is_item fun X C =>
  (s_cons (s_if (PW.pt (dw_or (dt_not (dt_val (d_isi C.toCtx T.b_isinstance (d_var C.toCtx 0) T.b_tuple (by decide +kernel)))) (dw_or (dt_ne C.toCtx (d_len C.toCtx T.b_len (d_cons (d_var C.toCtx 0) d_nil)) d_int) (dw_or (dt_not (dt_val (d_call C.toCtx (u_is_cell T) (d_cons (d_ix C.toCtx (d_var C.toCtx 0) d_int) d_nil)))) (dw_or1 (dt_not (dt_val (d_isi C.toCtx T.b_isinstance (d_ix C.toCtx (d_var C.toCtx 0) d_int) T.b_tuple (by decide +kernel))))))))) (s_one (s_ret d_bl)) s_nil)
    (s_one (s_ret (d_and (d_all C.toCtx T.b_all (d_cons (d_lkF (d_lcF C.toCtx [("cell", 1)] (i_it C.toCtx (d_ix C.toCtx (d_var C.toCtx 0) d_int)) (gc_name (vs := [1]) 1) (fun X' C' => c_nil) (fun X' C' => (d_call C' (u_is_cell T) (d_cons (d_var C' 1) d_nil))))) d_nil)) (d_one (d_call C.toCtx (u_is_ascending T) (d_cons (d_ix C.toCtx (d_var C.toCtx 0) d_int) d_nil)))))))
theorem u_is_item (T : Top K mg) : DefV P w K mg base 2 "is_item" f_is_item [] := T.t_is_item.use (ok_is_item T) (fun _ _ _ _ _ _ us hl => match us, hl with | [_], _ => rfl)
theorem ok_neighbour_labels (T : Top K mg) : ∀ kws f fd, FunS K "neighbour_labels" s_neighbour_labels [] kws f fd → FnG P w K mg base CX0 2 f fd ["board", "labels", "bounds"] (spF K f_neighbour_labels) := fun kws f fd F => def_okV F sc_neighbour_labels fun X C =>
  (s_cons (s_if (dt_eq C.toCtx (d_var C.toCtx 0) (d_tup d_nil)) (s_one (s_ret (d_lkF (d_lstF (d_cons (d_var C.toCtx 2) d_nil))))) s_nil)
    (s_cons (s_dcC C 3 (d_lkF (d_dcF C.toCtx [("value", 8), ("cell", 5), ("covers", 6)] (i_zip C.toCtx T.b_zip (d_cons (d_var C.toCtx 0) (d_cons (d_var C.toCtx 1) d_nil))) (gc_tup (gc_cons (DGc.pl (gc_tup (gc_cons (gc_name (vs := [8, 5, 6]) 5) (gc_cons (gc_name (vs := [8, 5, 6]) 6) gc_nil)))) (gc_cons (gc_name (vs := [8, 5, 6]) 8) gc_nil))) (fun X' C' => c_nil) (fun X' C' => (d_var C' 5)) (fun X' C' => (d_var C' 8)))))
    (s_cons (s_set C 4 (d_tr (d_lstF d_nil)))
    (s_cons (s_for C.toCtx (i_it C.toCtx (d_var C.toCtx 0)) (DG.pl (g_tup C.toCtx (g_cons (g_name C (vs := [5, 6]) 5) (g_cons (g_name C (vs := [5, 6]) 6) g_nil)))) (s_cons (s_set C 7 (d_if (dt_ne C.toCtx (d_var C.toCtx 6) (d_tup d_nil)) (d_lkF (d_lcF C.toCtx [("lower", 9)] (i_it C.toCtx (d_var C.toCtx 6)) (gc_name (vs := [9]) 9) (fun X' C' => c_nil) (fun X' C' => (d_ix C' (d_var C' 3) (d_var C' 9))))) (d_lkF (d_lstF (d_cons (d_ix C.toCtx (d_var C.toCtx 2) d_int) d_nil)))))
    (s_one (s_expr (d_extend C.toCtx (d_var C.toCtx 4) (d_cons (d_lkF (d_lcF C.toCtx [("value", 8)] (i_it C.toCtx (d_var C.toCtx 7)) (gc_name (vs := [8]) 8) (fun X' C' => c_nil) (fun X' C' => (d_tup (d_cons (d_var C' 8) (d_cons (d_ix C' (d_var C' 3) (d_var C' 5)) d_nil)))))) d_nil))))))
    (s_fz fz1_ok 4 (s_one (s_ret (d_add C.toCtx (d_var C.toCtx 4) (d_lkF (d_lcF C.toCtx [("cell", 5)] (i_it C.toCtx (d_call C.toCtx (u_maximal_cells T) (d_cons (d_var C.toCtx 0) d_nil))) (gc_name (vs := [5]) 5) (fun X' C' => c_nil) (fun X' C' => (d_tup (d_cons (d_ix C' (d_var C' 3) (d_var C' 5)) (d_cons (d_ix C' (d_var C' 2) d_int) d_nil))))))))))))))
theorem u_neighbour_labels (T : Top K mg) : DefV P w K mg base 2 "neighbour_labels" f_neighbour_labels [] := T.t_neighbour_labels.use (ok_neighbour_labels T) (fun _ _ _ _ _ _ us hl => match us, hl with | [_, _, _], _ => rfl)
theorem ok__law_stream (T : Top K mg) : ∀ kws f fd, FunS K "_law_stream" s__law_stream [] kws f fd → FnG P w K mg base CX0 2 f fd ["_law_item", "_law_k"] (spF K f__law_stream) := fun kws f fd F => def_okV F sc__law_stream fun X C =>
  (s_one (s_ret (d_tr (d_lstF (d_cons (d_if (dt_ge (d_var C.toCtx 0) (d_pow d_int d_int)) (d_var C.toCtx 0) d_int) (d_cons d_int (d_cons (d_call C.toCtx (u__law_mixed T) (d_cons (d_var C.toCtx 0) (d_cons (d_var C.toCtx 1) d_nil))) d_nil)))))))
theorem u__law_stream (T : Top K mg) : DefV P w K mg base 2 "_law_stream" f__law_stream [] := T.t__law_stream.use (ok__law_stream T) (fun _ _ _ _ _ _ us hl => match us, hl with | [_, _], _ => rfl)
theorem ok__law_draw (T : Top K mg) : ∀ kws f fd, FunS K "_law_draw" s__law_draw [] kws f fd → FnG P w K mg base CX0 2 f fd ["_law_stream_here", "_law_top"] (spF K f__law_draw) := fun kws f fd F => def_okV F sc__law_draw fun X C =>
  (s_cons (s_setI C.toCtx (d_var C.toCtx 0) d_int (d_add C.toCtx (d_ix C.toCtx (d_var C.toCtx 0) d_int) d_int))
    (s_cons (s_if (dt_eq C.toCtx (d_ix C.toCtx (d_var C.toCtx 0) d_int) d_int) (s_one (s_ret (d_mod (d_call C.toCtx (u__law_mixed T) (d_cons (d_call C.toCtx (u__law_mixed T) (d_cons (d_ix C.toCtx (d_var C.toCtx 0) d_int) (d_cons (d_ix C.toCtx (d_var C.toCtx 0) d_int) d_nil))) (d_cons d_int d_nil))) (d_var C.toCtx 1)))) s_nil)
    (s_cons (s_set C 2 (d_mod (d_ix C.toCtx (d_var C.toCtx 0) d_int) (d_var C.toCtx 1)))
    (s_cons (s_setI C.toCtx (d_var C.toCtx 0) d_int (d_div (d_ix C.toCtx (d_var C.toCtx 0) d_int) (d_var C.toCtx 1)))
    (s_one (s_ret (d_var C.toCtx 2)))))))
theorem u__law_draw (T : Top K mg) : DefV P w K mg base 2 "_law_draw" f__law_draw [] := T.t__law_draw.use (ok__law_draw T) (fun _ _ _ _ _ _ us hl => match us, hl with | [_, _], _ => rfl)
theorem ok_check_two (T : Top K mg) : ∀ kws f fd, FunS K "check_two" s_check_two [] kws f fd → FnG P w K mg base CX0 3 f fd ["first", "second"] (spF K f_check_two) := fun kws f fd F => def_okV F sc_check_two fun X C =>
  (s_one (s_for C.toCtx (i_enum C.toCtx T.b_enumerate (d_cons (d_tup (d_cons (d_var C.toCtx 0) (d_cons (d_var C.toCtx 1) d_nil))) d_nil)) (g_tup C.toCtx (g_cons (g_name C (vs := [2, 3]) 2) (g_cons (g_name C (vs := [2, 3]) 3) g_nil))) (s_one (s_if (dt_not (dt_val (d_call C.toCtx (u_is_fraction T) (d_cons (d_var C.toCtx 3) d_nil)))) (s_one s_never) s_nil))))
theorem u_check_two (T : Top K mg) : DefV P w K mg base 3 "check_two" f_check_two [] := T.t_check_two.use (ok_check_two T) (fun _ _ _ _ _ _ us hl => match us, hl with | [_, _], _ => rfl)
theorem ok_sum_of_two (T : Top K mg) : ∀ kws f fd, FunS K "sum_of_two" s_sum_of_two [] kws f fd → FnG P w K mg base CX0 3 f fd ["first", "second"] (spF K f_sum_of_two) := fun kws f fd F => def_okV F sc_sum_of_two fun X C =>
  (s_one (s_ret (d_call C.toCtx (u_reduced T) (d_cons (d_add C.toCtx (d_mul C.toCtx (d_ix C.toCtx (d_var C.toCtx 0) d_int) (d_ix C.toCtx (d_var C.toCtx 1) d_int)) (d_mul C.toCtx (d_ix C.toCtx (d_var C.toCtx 1) d_int) (d_ix C.toCtx (d_var C.toCtx 0) d_int))) (d_cons (d_mul C.toCtx (d_ix C.toCtx (d_var C.toCtx 0) d_int) (d_ix C.toCtx (d_var C.toCtx 1) d_int)) d_nil)))))
theorem u_sum_of_two (T : Top K mg) : DefV P w K mg base 3 "sum_of_two" f_sum_of_two [] := T.t_sum_of_two.use (ok_sum_of_two T) (fun _ _ _ _ _ _ us hl => match us, hl with | [_, _], _ => rfl)
theorem ok_product_of_two (T : Top K mg) : ∀ kws f fd, FunS K "product_of_two" s_product_of_two [] kws f fd → FnG P w K mg base CX0 3 f fd ["first", "second"] (spF K f_product_of_two) := fun kws f fd F => def_okV F sc_product_of_two fun X C =>
  (s_one (s_ret (d_call C.toCtx (u_reduced T) (d_cons (d_mul C.toCtx (d_ix C.toCtx (d_var C.toCtx 0) d_int) (d_ix C.toCtx (d_var C.toCtx 1) d_int)) (d_cons (d_mul C.toCtx (d_ix C.toCtx (d_var C.toCtx 0) d_int) (d_ix C.toCtx (d_var C.toCtx 1) d_int)) d_nil)))))
theorem u_product_of_two (T : Top K mg) : DefV P w K mg base 3 "product_of_two" f_product_of_two [] := T.t_product_of_two.use (ok_product_of_two T) (fun _ _ _ _ _ _ us hl => match us, hl with | [_, _], _ => rfl)
theorem ok_check_board (T : Top K mg) : ∀ kws f fd, FunS K "check_board" s_check_board [] kws f fd → FnG P w K mg base CX0 3 f fd ["board"] (spF K f_check_board) := fun kws f fd F => def_okV F sc_check_board fun X C =>
  (s_cons (s_if (PW.pt (dw_or (dt_not (dt_val (d_isi C.toCtx T.b_isinstance (d_var C.toCtx 0) T.b_tuple (by decide +kernel)))) (dw_or1 (dt_gt (d_len C.toCtx T.b_len (d_cons (d_var C.toCtx 0) d_nil)) (d_glob C.toCtx T.c_MAX_CELLS))))) (s_one s_never) s_nil)
    (s_cons (s_for C.toCtx (i_enum C.toCtx T.b_enumerate (d_cons (d_var C.toCtx 0) d_nil)) (g_tup C.toCtx (g_cons (g_name C (vs := [3, 4]) 3) (g_cons (g_name C (vs := [3, 4]) 4) g_nil))) (s_one (s_if (PW.pt (dw_or (dt_not (dt_val (d_call C.toCtx (u_is_item T) (d_cons (d_var C.toCtx 4) d_nil)))) (dw_or1 (PW.pt (dw_and (dt_gt (d_var C.toCtx 3) d_int) (dw_and1 (dt_le (d_ix C.toCtx (d_var C.toCtx 4) d_int) (d_ix C.toCtx (d_ix C.toCtx (d_var C.toCtx 0) (d_sub (d_var C.toCtx 3) d_int)) d_int)))))))) (s_one s_never) s_nil)))
    (s_cons (s_set C 1 (d_lkF (d_dictF C.toCtx T.b_dict (d_cons (d_var C.toCtx 0) d_nil))))
    (s_cons (s_for C.toCtx (i_enum C.toCtx T.b_enumerate (d_cons (d_var C.toCtx 0) d_nil)) (g_tup C.toCtx (g_cons (g_name C (vs := [3, 4]) 3) (g_cons (g_name C (vs := [3, 4]) 4) g_nil))) (s_one (s_if (dt_not (dt_val (d_all C.toCtx T.b_all (d_cons (d_lkF (d_lcF C.toCtx [("cell", 5)] (i_it C.toCtx (d_ix C.toCtx (d_var C.toCtx 4) d_int)) (gc_name (vs := [5]) 5) (fun X' C' => c_nil) (fun X' C' => (d_in C' (d_var C' 5) (d_var C' 1))))) d_nil)))) (s_one s_never) s_nil)))
    (s_cons (s_set C 2 (d_call C.toCtx (u_cells_below T) (d_cons (d_var C.toCtx 0) d_nil)))
    (s_cons (s_for C.toCtx (i_enum C.toCtx T.b_enumerate (d_cons (d_var C.toCtx 0) d_nil)) (g_tup C.toCtx (g_cons (g_name C (vs := [3, 4]) 3) (g_cons (g_name C (vs := [3, 4]) 4) g_nil))) (s_one (s_if (dt_in C.toCtx (d_ix C.toCtx (d_var C.toCtx 4) d_int) (d_ix C.toCtx (d_var C.toCtx 2) (d_ix C.toCtx (d_var C.toCtx 4) d_int))) (s_one s_never) s_nil)))
    (s_one (s_for C.toCtx (i_enum C.toCtx T.b_enumerate (d_cons (d_var C.toCtx 0) d_nil)) (g_tup C.toCtx (g_cons (g_name C (vs := [3, 4]) 3) (g_cons (g_name C (vs := [3, 4]) 4) g_nil))) (s_one (s_if (dt_val (d_any C.toCtx T.b_any (d_cons (d_lkF (d_lc2F C.toCtx [("cell", 5), ("other", 6)] (i_it C.toCtx (d_ix C.toCtx (d_var C.toCtx 4) d_int)) (gc_name (vs := [5, 6]) 5) (fun X' C' => c_nil) (fun X' C' => (i_it C' (d_ix C' (d_var C' 4) d_int))) (gc_name (vs := [6]) 6) (fun X' C' => c_nil) (fun X' C' => (d_in C' (d_var C' 5) (d_ix C' (d_var C' 2) (d_var C' 6)))))) d_nil))) (s_one s_never) s_nil))))))))))
theorem u_check_board (T : Top K mg) : DefV P w K mg base 3 "check_board" f_check_board [] := T.t_check_board.use (ok_check_board T) (fun _ _ _ _ _ _ us hl => match us, hl with | [_], _ => rfl)
theorem ok_check_bounds (T : Top K mg) : ∀ kws f fd, FunS K "check_bounds" s_check_bounds [] kws f fd → FnG P w K mg base CX0 3 f fd ["bounds"] (spF K f_check_bounds) := fun kws f fd F => def_okV F sc_check_bounds fun X C =>
  (s_cons (s_if (PW.pt (dw_or (dt_not (dt_val (d_isi C.toCtx T.b_isinstance (d_var C.toCtx 0) T.b_tuple (by decide +kernel)))) (dw_or1 (dt_ne C.toCtx (d_len C.toCtx T.b_len (d_cons (d_var C.toCtx 0) d_nil)) d_int)))) (s_one s_never) s_nil)
    (s_one (s_for C.toCtx (i_enum C.toCtx T.b_enumerate (d_cons (d_var C.toCtx 0) d_nil)) (g_tup C.toCtx (g_cons (g_name C (vs := [1, 2]) 1) (g_cons (g_name C (vs := [1, 2]) 2) g_nil))) (s_one (s_if (dt_not (dt_val (d_call C.toCtx (u_is_fraction T) (d_cons (d_var C.toCtx 2) d_nil)))) (s_one s_never) s_nil)))))
theorem u_check_bounds (T : Top K mg) : DefV P w K mg base 3 "check_bounds" f_check_bounds [] := T.t_check_bounds.use (ok_check_bounds T) (fun _ _ _ _ _ _ us hl => match us, hl with | [_], _ => rfl)
theorem ok__law_fraction (T : Top K mg) : ∀ kws f fd, FunS K "_law_fraction" s__law_fraction [] kws f fd → FnG P w K mg base CX0 3 f fd ["_law_stream_here"] (spF K f__law_fraction) := fun kws f fd F => def_okV F sc__law_fraction fun X C =>
  (s_one (s_ret (d_call C.toCtx (u__law_lowest T) (d_cons (d_add C.toCtx d_int (d_call C.toCtx (u__law_draw T) (d_cons (d_var C.toCtx 0) (d_cons d_int d_nil)))) (d_cons (d_add C.toCtx d_int (d_call C.toCtx (u__law_draw T) (d_cons (d_var C.toCtx 0) (d_cons d_int d_nil)))) d_nil)))))
theorem u__law_fraction (T : Top K mg) : DefV P w K mg base 3 "_law_fraction" f__law_fraction [] := T.t__law_fraction.use (ok__law_fraction T) (fun _ _ _ _ _ _ us hl => match us, hl with | [_], _ => rfl)
theorem ok__law_cells (T : Top K mg) : ∀ kws f fd, FunS K "_law_cells" s__law_cells [] kws f fd → FnG P w K mg base CX0 3 f fd ["_law_stream_here", "_law_size"] (spF K f__law_cells) := fun kws f fd F => def_okV F sc__law_cells fun X C =>
  (s_cons (s_set C 2 d_str)
    (s_cons (s_par3 C.toCtx 6 7 8 (d_cons (d_call C.toCtx (u__law_draw T) (d_cons (d_var C.toCtx 0) (d_cons d_int d_nil))) (d_cons (d_ix C.toCtx (d_lkF (d_lstF (d_cons d_int (d_cons d_int (d_cons d_int (d_cons d_int d_nil)))))) (d_call C.toCtx (u__law_draw T) (d_cons (d_var C.toCtx 0) (d_cons d_int d_nil)))) (d_cons (d_call C.toCtx (u__law_draw T) (d_cons (d_var C.toCtx 0) (d_cons d_int d_nil))) d_nil))))
    (s_cons (s_set C 3 (d_call C.toCtx (u__law_draw T) (d_cons (d_var C.toCtx 0) (d_cons d_int d_nil))))
    (s_cons (s_set C 4 (d_tr (d_lstF d_nil)))
    (s_cons (s_for C.toCtx (i_rng1 C.toCtx T.b_range (d_cons (d_var C.toCtx 1) d_nil)) (g_name C (vs := [5]) 5) (s_cons (s_set C 9 (d_ix C.toCtx (d_var C.toCtx 2) (d_mod (d_add C.toCtx (d_var C.toCtx 6) (d_mul C.toCtx (d_var C.toCtx 7) (d_var C.toCtx 5))) d_int)))
    (s_one (s_expr (d_append C.toCtx (d_var C.toCtx 4) (d_cons (d_ix C.toCtx (d_lkF (d_lstF (d_cons (d_var C.toCtx 9) (d_cons (d_add C.toCtx (d_var C.toCtx 9) (d_strC C.toCtx T.b_str (d_cons (d_mod (d_add C.toCtx (d_var C.toCtx 3) (d_mul C.toCtx d_int (d_var C.toCtx 5))) d_int) d_nil))) (d_cons (d_add C.toCtx (d_add C.toCtx (d_ix C.toCtx (d_var C.toCtx 2) (d_var C.toCtx 6)) d_str) (d_strC C.toCtx T.b_str (d_cons (d_add C.toCtx d_int (d_var C.toCtx 5)) d_nil))) d_nil))))) (d_var C.toCtx 8)) d_nil))))))
    (s_fz fz1_ok 4 (s_one (s_ret (d_var C.toCtx 4)))))))))
theorem u__law_cells (T : Top K mg) : DefV P w K mg base 3 "_law_cells" f__law_cells [] := T.t__law_cells.use (ok__law_cells T) (fun _ _ _ _ _ _ us hl => match us, hl with | [_, _], _ => rfl)
theorem ok_add (T : Top K mg) : ∀ kws f fd, FunS K "add" s_add [] kws f fd → FnG P w K mg base CX0 4 f fd ["first", "second"] (spF K f_add) := fun kws f fd F => def_okV F sc_add fun X C =>
  (s_cons (s_expr (d_call C.toCtx (u_check_two T) (d_cons (d_var C.toCtx 0) (d_cons (d_var C.toCtx 1) d_nil))))
    (s_one (s_ret (d_call C.toCtx (u_sum_of_two T) (d_cons (d_var C.toCtx 0) (d_cons (d_var C.toCtx 1) d_nil))))))
theorem u_add (T : Top K mg) : DefV P w K mg base 4 "add" f_add [] := T.t_add.use (ok_add T) (fun _ _ _ _ _ _ us hl => match us, hl with | [_, _], _ => rfl)
theorem ok_multiply (T : Top K mg) : ∀ kws f fd, FunS K "multiply" s_multiply [] kws f fd → FnG P w K mg base CX0 4 f fd ["first", "second"] (spF K f_multiply) := fun kws f fd F => def_okV F sc_multiply fun X C =>
  (s_cons (s_expr (d_call C.toCtx (u_check_two T) (d_cons (d_var C.toCtx 0) (d_cons (d_var C.toCtx 1) d_nil))))
    (s_one (s_ret (d_call C.toCtx (u_product_of_two T) (d_cons (d_var C.toCtx 0) (d_cons (d_var C.toCtx 1) d_nil))))))
theorem u_multiply (T : Top K mg) : DefV P w K mg base 4 "multiply" f_multiply [] := T.t_multiply.use (ok_multiply T) (fun _ _ _ _ _ _ us hl => match us, hl with | [_, _], _ => rfl)
theorem ok_divide (T : Top K mg) : ∀ kws f fd, FunS K "divide" s_divide [] kws f fd → FnG P w K mg base CX0 4 f fd ["first", "second"] (spF K f_divide) := fun kws f fd F => def_okV F sc_divide fun X C =>
  (s_cons (s_expr (d_call C.toCtx (u_check_two T) (d_cons (d_var C.toCtx 0) (d_cons (d_var C.toCtx 1) d_nil))))
    (s_one (s_ret (d_call C.toCtx (u_product_of_two T) (d_cons (d_var C.toCtx 0) (d_cons (d_call C.toCtx (u_reciprocal T) (d_cons (d_var C.toCtx 1) d_nil)) d_nil))))))
theorem u_divide (T : Top K mg) : DefV P w K mg base 4 "divide" f_divide [] := T.t_divide.use (ok_divide T) (fun _ _ _ _ _ _ us hl => match us, hl with | [_, _], _ => rfl)
theorem ok_parallel_sum (T : Top K mg) : ∀ kws f fd, FunS K "parallel_sum" s_parallel_sum [] kws f fd → FnG P w K mg base CX0 4 f fd ["values"] (spF K f_parallel_sum) := fun kws f fd F => def_okV F sc_parallel_sum fun X C =>
  (s_cons (s_if (PW.pt (dw_or (dt_not (dt_val (d_isi2 C.toCtx T.b_isinstance (d_var C.toCtx 0) T.b_list (by decide +kernel) T.b_tuple (by decide +kernel)))) (dw_or1 (dt_eq C.toCtx (d_len C.toCtx T.b_len (d_cons (d_var C.toCtx 0) d_nil)) d_int)))) (s_one s_never) s_nil)
    (s_cons (s_for C.toCtx (i_enum C.toCtx T.b_enumerate (d_cons (d_var C.toCtx 0) d_nil)) (g_tup C.toCtx (g_cons (g_name C (vs := [3, 2]) 3) (g_cons (g_name C (vs := [3, 2]) 2) g_nil))) (s_one (s_if (dt_not (dt_val (d_call C.toCtx (u_is_fraction T) (d_cons (d_var C.toCtx 2) d_nil)))) (s_one s_never) s_nil)))
    (s_cons (s_set C 1 (d_call C.toCtx (u_reciprocal T) (d_cons (d_ix C.toCtx (d_var C.toCtx 0) d_int) d_nil)))
    (s_cons (s_for C.toCtx (i_it C.toCtx (d_sl C.toCtx (d_var C.toCtx 0) (d_some d_int) d_none)) (g_name C (vs := [2]) 2) (s_one (s_set C 1 (d_call C.toCtx (u_sum_of_two T) (d_cons (d_var C.toCtx 1) (d_cons (d_call C.toCtx (u_reciprocal T) (d_cons (d_var C.toCtx 2) d_nil)) d_nil))))))
    (s_one (s_ret (d_call C.toCtx (u_reciprocal T) (d_cons (d_var C.toCtx 1) d_nil))))))))
theorem u_parallel_sum (T : Top K mg) : DefV P w K mg base 4 "parallel_sum" f_parallel_sum [] := T.t_parallel_sum.use (ok_parallel_sum T) (fun _ _ _ _ _ _ us hl => match us, hl with | [_], _ => rfl)
theorem ok_check_labels (T : Top K mg) : ∀ kws f fd, FunS K "check_labels" s_check_labels [] kws f fd → FnG P w K mg base CX0 4 f fd ["board", "labels"] (spF K f_check_labels) := fun kws f fd F => def_okV F sc_check_labels fun X C =>
  (s_cons (s_expr (d_call C.toCtx (u_check_board T) (d_cons (d_var C.toCtx 0) d_nil)))
    (s_cons (s_if (PW.pt (dw_or (dt_not (dt_val (d_isi C.toCtx T.b_isinstance (d_var C.toCtx 1) T.b_tuple (by decide +kernel)))) (dw_or1 (dt_ne C.toCtx (d_len C.toCtx T.b_len (d_cons (d_var C.toCtx 1) d_nil)) (d_len C.toCtx T.b_len (d_cons (d_var C.toCtx 0) d_nil)))))) (s_one s_never) s_nil)
    (s_one (s_for C.toCtx (i_enum C.toCtx T.b_enumerate (d_cons (d_var C.toCtx 1) d_nil)) (g_tup C.toCtx (g_cons (g_name C (vs := [2, 3]) 2) (g_cons (g_name C (vs := [2, 3]) 3) g_nil))) (s_one (s_if (dt_not (dt_val (d_call C.toCtx (u_is_fraction T) (d_cons (d_var C.toCtx 3) d_nil)))) (s_one s_never) s_nil))))))
theorem u_check_labels (T : Top K mg) : DefV P w K mg base 4 "check_labels" f_check_labels [] := T.t_check_labels.use (ok_check_labels T) (fun _ _ _ _ _ _ us hl => match us, hl with | [_, _], _ => rfl)
theorem ok_check_cell (T : Top K mg) : ∀ kws f fd, FunS K "check_cell" s_check_cell [] kws f fd → FnG P w K mg base CX0 4 f fd ["board", "cell"] (spF K f_check_cell) := fun kws f fd F => def_okV F sc_check_cell fun X C =>
  (s_cons (s_expr (d_call C.toCtx (u_check_board T) (d_cons (d_var C.toCtx 0) d_nil)))
    (s_one (s_if (PW.pt (dw_or (dt_not (dt_val (d_isi C.toCtx T.b_isinstance (d_var C.toCtx 1) T.b_str (by decide +kernel)))) (dw_or1 (dt_notin C.toCtx (d_var C.toCtx 1) (d_lkF (d_dictF C.toCtx T.b_dict (d_cons (d_var C.toCtx 0) d_nil))))))) (s_one s_never) s_nil)))
theorem u_check_cell (T : Top K mg) : DefV P w K mg base 4 "check_cell" f_check_cell [] := T.t_check_cell.use (ok_check_cell T) (fun _ _ _ _ _ _ us hl => match us, hl with | [_, _], _ => rfl)
theorem ok_dual (T : Top K mg) : ∀ kws f fd, FunS K "dual" s_dual [] kws f fd → FnG P w K mg base CX0 4 f fd ["board"] (spF K f_dual) := fun kws f fd F => def_okV F sc_dual fun X C =>
  (s_cons (s_expr (d_call C.toCtx (u_check_board T) (d_cons (d_var C.toCtx 0) d_nil)))
    (s_cons (s_lk (s_dc0 C 1 [("cell", 2), ("lower", 3)] (i_it C.toCtx (d_var C.toCtx 0)) (DGc.pl (gc_tup (gc_cons (gc_name (vs := [2, 3]) 2) (gc_cons (gc_name (vs := [2, 3]) 3) gc_nil)))) (fun X' C' => c_nil) (fun X' C' => (d_var C' 2)) (fun X' C' => (d_tr (d_lstF d_nil)))))
    (s_cons (s_for C.toCtx (i_it C.toCtx (d_var C.toCtx 0)) (DG.pl (g_tup C.toCtx (g_cons (g_name C (vs := [2, 3]) 2) (g_cons (g_name C (vs := [2, 3]) 3) g_nil)))) (s_one (s_for C.toCtx (i_it C.toCtx (d_var C.toCtx 3)) (g_name C (vs := [4]) 4) (s_one (s_expr (d_append C.toCtx (d_ix C.toCtx (d_var C.toCtx 1) (d_var C.toCtx 4)) (d_cons (d_var C.toCtx 2) d_nil)))))))
    (s_fz (fzD_ok 3) 1 (s_one (s_ret (d_call C.toCtx (u_board_from T) (d_cons (d_var C.toCtx 1) d_nil))))))))
theorem u_dual (T : Top K mg) : DefV P w K mg base 4 "dual" f_dual [] := T.t_dual.use (ok_dual T) (fun _ _ _ _ _ _ us hl => match us, hl with | [_], _ => rfl)
theorem ok__law_poset (T : Top K mg) : ∀ kws f fd, FunS K "_law_poset" s__law_poset [] kws f fd → FnG P w K mg base CX0 4 f fd ["_law_stream_here", "_law_limit"] (spF K f__law_poset) := fun kws f fd F => def_okV F sc__law_poset fun X C =>
  (s_cons (s_asgT C.toCtx (d_tup (d_cons (d_call C.toCtx (u__law_draw T) (d_cons (d_var C.toCtx 0) (d_cons (d_add C.toCtx (d_var C.toCtx 1) d_int) d_nil))) (d_cons (d_add C.toCtx d_int (d_call C.toCtx (u__law_draw T) (d_cons (d_var C.toCtx 0) (d_cons d_int d_nil)))) d_nil))) (DG.pl (g_tup C.toCtx (g_cons (g_name C (vs := [4, 5]) 4) (g_cons (g_name C (vs := [4, 5]) 5) g_nil)))))
    (s_cons (s_asgT C.toCtx (d_tup (d_cons (d_call C.toCtx (u__law_cells T) (d_cons (d_var C.toCtx 0) (d_cons (d_var C.toCtx 4) d_nil))) (d_cons (d_tr (d_lstF d_nil)) (d_cons (d_tr (d_lstF d_nil)) d_nil)))) (DG.pl (g_tup C.toCtx (g_cons (g_name C (vs := [6, 7, 8]) 6) (g_cons (g_name C (vs := [6, 7, 8]) 7) (g_cons (g_name C (vs := [6, 7, 8]) 8) g_nil))))))
    (s_cons (s_for C.toCtx (i_rng1 C.toCtx T.b_range (d_cons (d_var C.toCtx 4) d_nil)) (g_name C (vs := [2]) 2) (s_cons (s_lk (s_lc0 C 9 [("_law_j", 12)] (i_rng1 C.toCtx T.b_range (d_cons (d_var C.toCtx 2) d_nil)) (gc_name (vs := [12]) 12) (fun X' C' => (c_one (dt_eq C' (d_call C' (u__law_draw T) (d_cons (d_var C' 0) (d_cons (d_add C' d_int (d_var C' 5)) d_nil))) d_int))) (fun X' C' => (d_var C' 12))))
    (s_cons (s_set C 10 (d_lkF (d_sortsetF C.toCtx T.b_sorted T.b_set (d_cons (d_sum2 C.toCtx T.b_sum (d_cons (d_lkF (d_lcF C.toCtx [("_law_j", 12)] (i_it C.toCtx (d_var C.toCtx 9)) (gc_name (vs := [12]) 12) (fun X' C' => c_nil) (fun X' C' => (d_ix C' (d_var C' 7) (d_var C' 12))))) (d_cons (d_var C.toCtx 9) d_nil))) d_nil))))
    (s_cons (s_set C 11 (d_sum2 C.toCtx T.b_sum (d_cons (d_lkF (d_lcF C.toCtx [("_law_j", 12)] (i_it C.toCtx (d_var C.toCtx 10)) (gc_name (vs := [12]) 12) (fun X' C' => c_nil) (fun X' C' => (d_ix C' (d_var C' 7) (d_var C' 12))))) (d_cons (d_lkF (d_lstF d_nil)) d_nil))))
    (s_cons (s_expr (d_append C.toCtx (d_var C.toCtx 7) (d_cons (d_var C.toCtx 10) d_nil)))
    (s_one (s_expr (d_append C.toCtx (d_var C.toCtx 8) (d_cons (d_lkF (d_lcF C.toCtx [("_law_j", 12)] (i_it C.toCtx (d_var C.toCtx 10)) (gc_name (vs := [12]) 12) (fun X' C' => (c_one (dt_notin C' (d_var C' 12) (d_var C' 11)))) (fun X' C' => (d_var C' 12)))) d_nil)))))))))
    (s_fz fz1_ok 7 (s_fz fz1_ok 8 (s_cons (s_lk (s_lc0 C 3 [("_law_k", 2)] (i_rng1 C.toCtx T.b_range (d_cons (d_var C.toCtx 4) d_nil)) (gc_name (vs := [2]) 2) (fun X' C' => c_nil) (fun X' C' => (d_tup (d_cons (d_ix C' (d_var C' 6) (d_var C' 2)) (d_cons (d_tuple C' T.b_tuple (d_cons (d_lkF (d_sortedF C' T.b_sorted (d_cons (d_lkF (d_lcF C' [("_law_j", 12)] (i_it C' (d_ix C' (d_var C' 8) (d_var C' 2))) (gc_name (vs := [12]) 12) (fun X' C' => c_nil) (fun X' C' => (d_ix C' (d_var C' 6) (d_var C' 12))))) d_nil))) d_nil)) d_nil))))))
    (s_one (s_ret (d_tuple C.toCtx T.b_tuple (d_cons (d_lkF (d_sortedF C.toCtx T.b_sorted (d_cons (d_var C.toCtx 3) d_nil))) d_nil))))))))))
theorem u__law_poset (T : Top K mg) : DefV P w K mg base 4 "_law_poset" f__law_poset [] := T.t__law_poset.use (ok__law_poset T) (fun _ _ _ _ _ _ us hl => match us, hl with | [_, _], _ => rfl)
theorem ok_lower_covers (T : Top K mg) : ∀ kws f fd, FunS K "lower_covers" s_lower_covers [] kws f fd → FnG P w K mg base CX0 5 f fd ["board", "cell"] (spF K f_lower_covers) := fun kws f fd F => def_okV F sc_lower_covers fun X C =>
  (s_cons (s_expr (d_call C.toCtx (u_check_cell T) (d_cons (d_var C.toCtx 0) (d_cons (d_var C.toCtx 1) d_nil))))
    (s_one (s_ret (d_ix C.toCtx (d_lkF (d_dictF C.toCtx T.b_dict (d_cons (d_var C.toCtx 0) d_nil))) (d_var C.toCtx 1)))))
theorem u_lower_covers (T : Top K mg) : DefV P w K mg base 5 "lower_covers" f_lower_covers [] := T.t_lower_covers.use (ok_lower_covers T) (fun _ _ _ _ _ _ us hl => match us, hl with | [_, _], _ => rfl)
theorem ok_upper_covers (T : Top K mg) : ∀ kws f fd, FunS K "upper_covers" s_upper_covers [] kws f fd → FnG P w K mg base CX0 5 f fd ["board", "cell"] (spF K f_upper_covers) := fun kws f fd F => def_okV F sc_upper_covers fun X C =>
  (s_cons (s_expr (d_call C.toCtx (u_check_cell T) (d_cons (d_var C.toCtx 0) (d_cons (d_var C.toCtx 1) d_nil))))
    (s_one (s_ret (d_tuple C.toCtx T.b_tuple (d_cons (d_lkF (d_lcF C.toCtx [("other", 2), ("covers", 3)] (i_it C.toCtx (d_var C.toCtx 0)) (DGc.pl (gc_tup (gc_cons (gc_name (vs := [2, 3]) 2) (gc_cons (gc_name (vs := [2, 3]) 3) gc_nil)))) (fun X' C' => (c_one (dt_in C' (d_var C' 1) (d_var C' 3)))) (fun X' C' => (d_var C' 2)))) d_nil)))))
theorem u_upper_covers (T : Top K mg) : DefV P w K mg base 5 "upper_covers" f_upper_covers [] := T.t_upper_covers.use (ok_upper_covers T) (fun _ _ _ _ _ _ us hl => match us, hl with | [_, _], _ => rfl)
theorem ok_edge_sum (T : Top K mg) : ∀ kws f fd, FunS K "edge_sum" s_edge_sum [] kws f fd → FnG P w K mg base CX0 5 f fd ["board", "labels", "bounds"] (spF K f_edge_sum) := fun kws f fd F => def_okV F sc_edge_sum fun X C =>
  (s_cons (s_expr (d_call C.toCtx (u_check_labels T) (d_cons (d_var C.toCtx 0) (d_cons (d_var C.toCtx 1) d_nil))))
    (s_cons (s_expr (d_call C.toCtx (u_check_bounds T) (d_cons (d_var C.toCtx 2) d_nil)))
    (s_cons (s_lk (s_lc0 C 3 [("lower", 6), ("upper", 7)] (i_it C.toCtx (d_call C.toCtx (u_neighbour_labels T) (d_cons (d_var C.toCtx 0) (d_cons (d_var C.toCtx 1) (d_cons (d_var C.toCtx 2) d_nil))))) (DGc.pl (gc_tup (gc_cons (gc_name (vs := [6, 7]) 6) (gc_cons (gc_name (vs := [6, 7]) 7) gc_nil)))) (fun X' C' => c_nil) (fun X' C' => (d_call C' (u_product_of_two T) (d_cons (d_var C' 6) (d_cons (d_call C' (u_reciprocal T) (d_cons (d_var C' 7) d_nil)) d_nil))))))
    (s_cons (s_set C 4 (d_ix C.toCtx (d_var C.toCtx 3) d_int))
    (s_cons (s_for C.toCtx (i_it C.toCtx (d_sl C.toCtx (d_var C.toCtx 3) (d_some d_int) d_none)) (g_name C (vs := [5]) 5) (s_one (s_set C 4 (d_call C.toCtx (u_sum_of_two T) (d_cons (d_var C.toCtx 4) (d_cons (d_var C.toCtx 5) d_nil))))))
    (s_one (s_ret (d_var C.toCtx 4))))))))
theorem u_edge_sum_2_bounds (T : Top K mg) : DefVN P w K mg base 5 "edge_sum" 2 ["bounds"] g_edge_sum_2_bounds f_edge_sum := T.t_edge_sum.useK (ok_edge_sum T) ["bounds"] [] (fun us mv ws => (us.take 2) ++ ((ws.drop 0).take 1)) (by simp) (fun r1 r2 r3 => ((r1.take 2).append ((r3.drop 0).take 1))) (fun r1 r2 r3 => ((r1.take 2).append ((r3.drop 0).take 1))) (fun _ _ _ _ _ _ us mv ws h1 h2 h3 => match us, mv, ws, h1, h2, h3 with | [_, _], [], [_], _, _, _ => rfl)
theorem ok_dual_labels (T : Top K mg) : ∀ kws f fd, FunS K "dual_labels" s_dual_labels [] kws f fd → FnG P w K mg base CX0 5 f fd ["board", "labels"] (spF K f_dual_labels) := fun kws f fd F => def_okV F sc_dual_labels fun X C =>
  (s_cons (s_expr (d_call C.toCtx (u_check_labels T) (d_cons (d_var C.toCtx 0) (d_cons (d_var C.toCtx 1) d_nil))))
    (s_one (s_ret (d_tuple C.toCtx T.b_tuple (d_cons (d_lkF (d_lcF C.toCtx [("value", 2)] (i_it C.toCtx (d_var C.toCtx 1)) (gc_name (vs := [2]) 2) (fun X' C' => c_nil) (fun X' C' => (d_call C' (u_reciprocal T) (d_cons (d_var C' 2) d_nil))))) d_nil)))))
theorem u_dual_labels (T : Top K mg) : DefV P w K mg base 5 "dual_labels" f_dual_labels [] := T.t_dual_labels.use (ok_dual_labels T) (fun _ _ _ _ _ _ us hl => match us, hl with | [_, _], _ => rfl)
theorem ok__law_toggled (T : Top K mg) : ∀ kws f fd, FunS K "_law_toggled" s__law_toggled [] kws f fd → FnG P w K mg base CX0 6 f fd ["_law_poset_here", "_law_marks", "_law_spot", "_law_ends"] (spF K f__law_toggled) := fun kws f fd F => def_okV F sc__law_toggled fun X C =>
  (s_cons (s_set C 4 (d_lkF (d_dictF C.toCtx T.b_dict (d_cons (d_lkF (d_lcF C.toCtx [("_law_k", 11)] (i_rng1 C.toCtx T.b_range (d_cons (d_len C.toCtx T.b_len (d_cons (d_var C.toCtx 0) d_nil)) d_nil)) (gc_name (vs := [11]) 11) (fun X' C' => c_nil) (fun X' C' => (d_tup (d_cons (d_ix C' (d_ix C' (d_var C' 0) (d_var C' 11)) d_int) (d_cons (d_var C' 11) d_nil)))))) d_nil))))
    (s_cons (s_lk (s_lc0 C 5 [("_law_one", 8)] (i_it C.toCtx (d_call C.toCtx (u_lower_covers T) (d_cons (d_var C.toCtx 0) (d_cons (d_var C.toCtx 2) d_nil)))) (gc_name (vs := [8]) 8) (fun X' C' => c_nil) (fun X' C' => (d_ix C' (d_var C' 1) (d_ix C' (d_var C' 4) (d_var C' 8))))))
    (s_cons (s_lk (s_lc0 C 6 [("_law_one", 8)] (i_it C.toCtx (d_call C.toCtx (u_upper_covers T) (d_cons (d_var C.toCtx 0) (d_cons (d_var C.toCtx 2) d_nil)))) (gc_name (vs := [8]) 8) (fun X' C' => c_nil) (fun X' C' => (d_ix C' (d_var C' 1) (d_ix C' (d_var C' 4) (d_var C' 8))))))
    (s_cons (s_set C 7 (d_if (dt_eq C.toCtx (d_var C.toCtx 5) (d_lkF (d_lstF d_nil))) (d_ix C.toCtx (d_var C.toCtx 3) d_int) (d_ix C.toCtx (d_var C.toCtx 5) d_int)))
    (s_cons (s_for C.toCtx (i_it C.toCtx (d_sl C.toCtx (d_var C.toCtx 5) (d_some d_int) d_none)) (g_name C (vs := [8]) 8) (s_one (s_set C 7 (d_call C.toCtx (u_add T) (d_cons (d_var C.toCtx 7) (d_cons (d_var C.toCtx 8) d_nil))))))
    (s_cons (s_set C 9 (d_call C.toCtx (u_parallel_sum T) (d_cons (d_if (dt_ne C.toCtx (d_var C.toCtx 6) (d_lkF (d_lstF d_nil))) (d_var C.toCtx 6) (d_lkF (d_lstF (d_cons (d_ix C.toCtx (d_var C.toCtx 3) d_int) d_nil)))) d_nil)))
    (s_cons (s_set C 10 (d_ix C.toCtx (d_var C.toCtx 4) (d_var C.toCtx 2)))
    (s_one (s_ret (d_add C.toCtx (d_add C.toCtx (d_sl C.toCtx (d_var C.toCtx 1) d_none (d_some (d_var C.toCtx 10))) (d_tup (d_cons (d_call C.toCtx (u_divide T) (d_cons (d_call C.toCtx (u_multiply T) (d_cons (d_var C.toCtx 7) (d_cons (d_var C.toCtx 9) d_nil))) (d_cons (d_ix C.toCtx (d_var C.toCtx 1) (d_var C.toCtx 10)) d_nil))) d_nil))) (d_sl C.toCtx (d_var C.toCtx 1) (d_some (d_add C.toCtx (d_var C.toCtx 10) d_int)) d_none)))))))))))
theorem u__law_toggled (T : Top K mg) : DefV P w K mg base 6 "_law_toggled" f__law_toggled [] := T.t__law_toggled.use (ok__law_toggled T) (fun _ _ _ _ _ _ us hl => match us, hl with | [_, _, _, _], _ => rfl)
theorem ok__law_step_right (T : Top K mg) : ∀ kws f fd, FunS K "_law_step_right" s__law_step_right [] kws f fd → FnG P w K mg base CX0 7 f fd ["_law_poset_here", "_law_marks", "_law_spot", "_law_ends", "_law_factor"] (spF K f__law_step_right) := fun kws f fd F => def_okV F sc__law_step_right fun X C =>
  (s_cons (s_set C 5 (d_call C.toCtx (u__law_toggled T) (d_cons (d_var C.toCtx 0) (d_cons (d_var C.toCtx 1) (d_cons (d_var C.toCtx 2) (d_cons (d_var C.toCtx 3) d_nil))))))
    (s_cons (s_if (dt_ne C.toCtx (d_callN C.toCtx (u_edge_sum_2_bounds T) (d_cons (d_var C.toCtx 0) (d_cons (d_var C.toCtx 5) d_nil)) (k_cons (d_var C.toCtx 3) k_nil)) (d_callN C.toCtx (u_edge_sum_2_bounds T) (d_cons (d_var C.toCtx 0) (d_cons (d_var C.toCtx 1) d_nil)) (k_cons (d_var C.toCtx 3) k_nil))) (s_one (s_ret d_bl)) s_nil)
    (s_cons (s_if (dt_ne C.toCtx (d_call C.toCtx (u__law_toggled T) (d_cons (d_var C.toCtx 0) (d_cons (d_var C.toCtx 5) (d_cons (d_var C.toCtx 2) (d_cons (d_var C.toCtx 3) d_nil))))) (d_var C.toCtx 1)) (s_one (s_ret d_bl)) s_nil)
    (s_cons (s_set C 6 (d_tup (d_cons (d_rev C.toCtx (d_ix C.toCtx (d_var C.toCtx 3) d_int)) (d_cons (d_rev C.toCtx (d_ix C.toCtx (d_var C.toCtx 3) d_int)) d_nil))))
    (s_cons (s_if (dt_ne C.toCtx (d_call C.toCtx (u__law_toggled T) (d_cons (d_call C.toCtx (u_dual T) (d_cons (d_var C.toCtx 0) d_nil)) (d_cons (d_call C.toCtx (u_dual_labels T) (d_cons (d_var C.toCtx 0) (d_cons (d_var C.toCtx 1) d_nil))) (d_cons (d_var C.toCtx 2) (d_cons (d_var C.toCtx 6) d_nil))))) (d_call C.toCtx (u_dual_labels T) (d_cons (d_var C.toCtx 0) (d_cons (d_var C.toCtx 5) d_nil)))) (s_one (s_ret d_bl)) s_nil)
    (s_cons (s_set C 7 (d_tuple C.toCtx T.b_tuple (d_cons (d_lkF (d_lcF C.toCtx [("_law_one", 9)] (i_it C.toCtx (d_var C.toCtx 1)) (gc_name (vs := [9]) 9) (fun X' C' => c_nil) (fun X' C' => (d_call C' (u_multiply T) (d_cons (d_var C' 9) (d_cons (d_var C' 4) d_nil)))))) d_nil)))
    (s_cons (s_set C 8 (d_tuple C.toCtx T.b_tuple (d_cons (d_lkF (d_lcF C.toCtx [("_law_one", 9)] (i_it C.toCtx (d_var C.toCtx 5)) (gc_name (vs := [9]) 9) (fun X' C' => c_nil) (fun X' C' => (d_call C' (u_multiply T) (d_cons (d_var C' 9) (d_cons (d_var C' 4) d_nil)))))) d_nil)))
    (s_one (s_ret (d_eq C.toCtx (d_call C.toCtx (u__law_toggled T) (d_cons (d_var C.toCtx 0) (d_cons (d_var C.toCtx 7) (d_cons (d_var C.toCtx 2) (d_cons (d_tup (d_cons (d_call C.toCtx (u_multiply T) (d_cons (d_ix C.toCtx (d_var C.toCtx 3) d_int) (d_cons (d_var C.toCtx 4) d_nil))) (d_cons (d_call C.toCtx (u_multiply T) (d_cons (d_ix C.toCtx (d_var C.toCtx 3) d_int) (d_cons (d_var C.toCtx 4) d_nil))) d_nil))) d_nil))))) (d_var C.toCtx 8)))))))))))
theorem u__law_step_right (T : Top K mg) : DefV P w K mg base 7 "_law_step_right" f__law_step_right [] := T.t__law_step_right.use (ok__law_step_right T) (fun _ _ _ _ _ _ us hl => match us, hl with | [_, _, _, _, _], _ => rfl)
theorem ok__law_exchange_right (T : Top K mg) : ∀ kws f fd, FunS K "_law_exchange_right" s__law_exchange_right [] kws f fd → FnG P w K mg base CX0 7 f fd ["_law_poset_here", "_law_marks", "_law_one", "_law_two", "_law_ends"] (spF K f__law_exchange_right) := fun kws f fd F => def_okV F sc__law_exchange_right fun X C =>
  (s_cons (s_if (PW.pt (dw_or (dt_in C.toCtx (d_var C.toCtx 2) (d_call C.toCtx (u_lower_covers T) (d_cons (d_var C.toCtx 0) (d_cons (d_var C.toCtx 3) d_nil)))) (dw_or1 (dt_in C.toCtx (d_var C.toCtx 3) (d_call C.toCtx (u_lower_covers T) (d_cons (d_var C.toCtx 0) (d_cons (d_var C.toCtx 2) d_nil))))))) (s_one (s_ret d_bl)) s_nil)
    (s_cons (s_set C 5 (d_call C.toCtx (u__law_toggled T) (d_cons (d_var C.toCtx 0) (d_cons (d_call C.toCtx (u__law_toggled T) (d_cons (d_var C.toCtx 0) (d_cons (d_var C.toCtx 1) (d_cons (d_var C.toCtx 2) (d_cons (d_var C.toCtx 4) d_nil))))) (d_cons (d_var C.toCtx 3) (d_cons (d_var C.toCtx 4) d_nil))))))
    (s_one (s_ret (d_eq C.toCtx (d_var C.toCtx 5) (d_call C.toCtx (u__law_toggled T) (d_cons (d_var C.toCtx 0) (d_cons (d_call C.toCtx (u__law_toggled T) (d_cons (d_var C.toCtx 0) (d_cons (d_var C.toCtx 1) (d_cons (d_var C.toCtx 3) (d_cons (d_var C.toCtx 4) d_nil))))) (d_cons (d_var C.toCtx 2) (d_cons (d_var C.toCtx 4) d_nil))))))))))
theorem u__law_exchange_right (T : Top K mg) : DefV P w K mg base 7 "_law_exchange_right" f__law_exchange_right [] := T.t__law_exchange_right.use (ok__law_exchange_right T) (fun _ _ _ _ _ _ us hl => match us, hl with | [_, _, _, _, _], _ => rfl)
theorem ok_law (T : Top K mg) : ∀ kws f fd, FunS K "law" s_law [] kws f fd → FnG P w K mg base CX0 8 f fd ["_law_script"] (spF K f_law) := fun kws f fd F => def_okV F sc_law fun X C =>
  (s_cons (s_for C.toCtx (i_enum C.toCtx T.b_enumerate (d_cons (d_sl C.toCtx (d_add C.toCtx (d_var C.toCtx 0) (d_lkF (d_lstF (d_cons d_int d_nil)))) d_none (d_some d_int)) d_nil)) (g_tup C.toCtx (g_cons (g_name C (vs := [1, 2]) 1) (g_cons (g_name C (vs := [1, 2]) 2) g_nil))) (s_cons (s_set C 3 (d_call C.toCtx (u__law_stream T) (d_cons (d_var C.toCtx 2) (d_cons (d_var C.toCtx 1) d_nil))))
    (s_cons (s_set C 4 (d_call C.toCtx (u__law_poset T) (d_cons (d_var C.toCtx 3) (d_cons d_int d_nil))))
    (s_cons (s_set C 5 (d_tuple C.toCtx T.b_tuple (d_cons (d_lkF (d_lcF C.toCtx [("_law_spot", 9)] (i_it C.toCtx (d_var C.toCtx 4)) (gc_name (vs := [9]) 9) (fun X' C' => c_nil) (fun X' C' => (d_call C' (u__law_fraction T) (d_cons (d_var C' 3) d_nil))))) d_nil)))
    (s_cons (s_par C.toCtx 7 8 (d_cons (d_tup (d_cons (d_call C.toCtx (u__law_fraction T) (d_cons (d_var C.toCtx 3) d_nil)) (d_cons (d_call C.toCtx (u__law_fraction T) (d_cons (d_var C.toCtx 3) d_nil)) d_nil))) (d_cons (d_call C.toCtx (u__law_fraction T) (d_cons (d_var C.toCtx 3) d_nil)) d_nil)))
    (s_one (s_for C.toCtx (i_rng1 C.toCtx T.b_range (d_cons (d_mul C.toCtx (d_add C.toCtx d_int (d_call C.toCtx (u__law_draw T) (d_cons (d_var C.toCtx 3) (d_cons d_int d_nil)))) (d_intC C.toCtx T.b_int (d_cons (d_ne C.toCtx (d_var C.toCtx 4) (d_tup d_nil)) d_nil))) d_nil)) (g_name C (vs := [6]) 6) (s_cons (s_par C.toCtx 9 10 (d_cons (d_ix C.toCtx (d_ix C.toCtx (d_var C.toCtx 4) (d_call C.toCtx (u__law_draw T) (d_cons (d_var C.toCtx 3) (d_cons (d_len C.toCtx T.b_len (d_cons (d_var C.toCtx 4) d_nil)) d_nil)))) d_int) (d_cons (d_ix C.toCtx (d_ix C.toCtx (d_var C.toCtx 4) (d_call C.toCtx (u__law_draw T) (d_cons (d_var C.toCtx 3) (d_cons (d_len C.toCtx T.b_len (d_cons (d_var C.toCtx 4) d_nil)) d_nil)))) d_int) d_nil)))
    (s_cons (s_if (dt_not (dt_val (d_call C.toCtx (u__law_step_right T) (d_cons (d_var C.toCtx 4) (d_cons (d_var C.toCtx 5) (d_cons (d_var C.toCtx 9) (d_cons (d_var C.toCtx 7) (d_cons (d_var C.toCtx 8) d_nil)))))))) (s_one (s_ret d_bl)) s_nil)
    (s_cons (s_if (dt_not (dt_val (d_call C.toCtx (u__law_exchange_right T) (d_cons (d_var C.toCtx 4) (d_cons (d_var C.toCtx 5) (d_cons (d_var C.toCtx 9) (d_cons (d_var C.toCtx 10) (d_cons (d_var C.toCtx 7) d_nil)))))))) (s_one (s_ret d_bl)) s_nil)
    (s_one (s_set C 5 (d_call C.toCtx (u__law_toggled T) (d_cons (d_var C.toCtx 4) (d_cons (d_var C.toCtx 5) (d_cons (d_var C.toCtx 9) (d_cons (d_var C.toCtx 7) d_nil)))))))))))))))))
    (s_one (s_ret d_bl)))
end
end TV
end
set_option Elab.async false
set_option linter.all false
set_option maxRecDepth 100000
set_option maxHeartbeats 4000000
open PySem PySem.W PyProof.Rows
set_option maxRecDepth 100000 in
set_option maxHeartbeats 0 in
theorem PySem.Challenge.cw_turnboard_k07_whole_edge_sum_invariant_holds : PySem.Challenge.rw_turnboard_k07_whole_edge_sum_invariant.Holds := by
  w_on; o_law; k_head; (case hw => w_witness2)
  k_fill
  refine TV.law_end (l := PySem.Challenge.rw_turnboard_k07_whole_edge_sum_invariant) (st := TV.s_law) (x := "_law_script") (k := 8) (F := TV.f_law) rfl rfl rfl ⟨rfl, by decide, by decide⟩ (fun w h Y => PySem.W.kIn_of Y) (fun _ _ _ _ _ _ us hl => match us, hl with | [_], _ => rfl) TV.law_true ?F
  case F =>
    intro w mg h KX G
    have T : TV.Top _ mg := {
      t_is_integer := TV.TopV.mkD KX G (by k_is) (by k_is) (by k_is) (by k_is) (TV.dkd_cons (by k_is) TV.cr_int (TV.dkd_cons (by k_is) TV.cr_none TV.dkd_nil))
      t_greatest_common_divisor := TV.TopV.mk0 KX G (by k_is) (by k_is) (by k_is) (by k_is)
      t_is_fraction := TV.TopV.mk0 KX G (by k_is) (by k_is) (by k_is) (by k_is)
      t_reduced := TV.TopV.mk0 KX G (by k_is) (by k_is) (by k_is) (by k_is)
      t_check_two := TV.TopV.mk0 KX G (by k_is) (by k_is) (by k_is) (by k_is)
      t_reciprocal := TV.TopV.mk0 KX G (by k_is) (by k_is) (by k_is) (by k_is)
      t_sum_of_two := TV.TopV.mk0 KX G (by k_is) (by k_is) (by k_is) (by k_is)
      t_product_of_two := TV.TopV.mk0 KX G (by k_is) (by k_is) (by k_is) (by k_is)
      t_add := TV.TopV.mk0 KX G (by k_is) (by k_is) (by k_is) (by k_is)
      t_multiply := TV.TopV.mk0 KX G (by k_is) (by k_is) (by k_is) (by k_is)
      t_divide := TV.TopV.mk0 KX G (by k_is) (by k_is) (by k_is) (by k_is)
      t_parallel_sum := TV.TopV.mk0 KX G (by k_is) (by k_is) (by k_is) (by k_is)
      t_is_cell := TV.TopV.mk0 KX G (by k_is) (by k_is) (by k_is) (by k_is)
      t_is_ascending := TV.TopV.mk0 KX G (by k_is) (by k_is) (by k_is) (by k_is)
      t_is_item := TV.TopV.mk0 KX G (by k_is) (by k_is) (by k_is) (by k_is)
      t_cells_below := TV.TopV.mk0 KX G (by k_is) (by k_is) (by k_is) (by k_is)
      t_check_board := TV.TopV.mk0 KX G (by k_is) (by k_is) (by k_is) (by k_is)
      t_check_labels := TV.TopV.mk0 KX G (by k_is) (by k_is) (by k_is) (by k_is)
      t_check_bounds := TV.TopV.mk0 KX G (by k_is) (by k_is) (by k_is) (by k_is)
      t_check_cell := TV.TopV.mk0 KX G (by k_is) (by k_is) (by k_is) (by k_is)
      t_lower_covers := TV.TopV.mk0 KX G (by k_is) (by k_is) (by k_is) (by k_is)
      t_upper_covers := TV.TopV.mk0 KX G (by k_is) (by k_is) (by k_is) (by k_is)
      t_maximal_cells := TV.TopV.mk0 KX G (by k_is) (by k_is) (by k_is) (by k_is)
      t_neighbour_labels := TV.TopV.mk0 KX G (by k_is) (by k_is) (by k_is) (by k_is)
      t_edge_sum := TV.TopV.mkD KX G (by k_is) (by k_is) (by k_is) (by k_is) (TV.dkd_cons (by k_is) (TV.cr_tup (by k_is) (by decide) (TV.cr_cons (TV.cr_tup (by k_is) (by decide) (TV.cr_cons TV.cr_int (TV.cr_cons TV.cr_int TV.cr_nil))) (TV.cr_cons (TV.cr_tup (by k_is) (by decide) (TV.cr_cons TV.cr_int (TV.cr_cons TV.cr_int TV.cr_nil))) TV.cr_nil))) TV.dkd_nil)
      t_board_from := TV.TopV.mk0 KX G (by k_is) (by k_is) (by k_is) (by k_is)
      t_dual := TV.TopV.mk0 KX G (by k_is) (by k_is) (by k_is) (by k_is)
      t_dual_labels := TV.TopV.mk0 KX G (by k_is) (by k_is) (by k_is) (by k_is)
      t__law_mixed := TV.TopV.mk0 KX G (by k_is) (by k_is) (by k_is) (by k_is)
      t__law_stream := TV.TopV.mk0 KX G (by k_is) (by k_is) (by k_is) (by k_is)
      t__law_draw := TV.TopV.mk0 KX G (by k_is) (by k_is) (by k_is) (by k_is)
      t__law_lowest := TV.TopV.mk0 KX G (by k_is) (by k_is) (by k_is) (by k_is)
      t__law_fraction := TV.TopV.mk0 KX G (by k_is) (by k_is) (by k_is) (by k_is)
      t__law_cells := TV.TopV.mk0 KX G (by k_is) (by k_is) (by k_is) (by k_is)
      t__law_poset := TV.TopV.mk0 KX G (by k_is) (by k_is) (by k_is) (by k_is)
      t__law_toggled := TV.TopV.mk0 KX G (by k_is) (by k_is) (by k_is) (by k_is)
      t__law_step_right := TV.TopV.mk0 KX G (by k_is) (by k_is) (by k_is) (by k_is)
      t__law_exchange_right := TV.TopV.mk0 KX G (by k_is) (by k_is) (by k_is) (by k_is)
      t_law := TV.TopV.mk0 KX G (by k_is) (by k_is) (by k_is) (by k_is)
      c_MAX_CELLS := TV.GlobR.mk (PySem.W.mg_of KX G (by k_is)) TV.cr_int
      c_MAX_CELL_LENGTH := TV.GlobR.mk (PySem.W.mg_of KX G (by k_is)) TV.cr_int
      c_UNIT_BOUNDS := TV.GlobR.mk (PySem.W.mg_of KX G (by k_is)) (TV.cr_tup (by k_is) (by decide) (TV.cr_cons (TV.cr_tup (by k_is) (by decide) (TV.cr_cons TV.cr_int (TV.cr_cons TV.cr_int TV.cr_nil))) (TV.cr_cons (TV.cr_tup (by k_is) (by decide) (TV.cr_cons TV.cr_int (TV.cr_cons TV.cr_int TV.cr_nil))) TV.cr_nil)))
      c_LETTERS := TV.GlobR.mk (PySem.W.mg_of KX G (by k_is)) TV.cr_str
      c_DIGITS := TV.GlobR.mk (PySem.W.mg_of KX G (by k_is)) TV.cr_str
      b_all := PySem.W.mg_none_of KX G (by k_is)
      b_any := PySem.W.mg_none_of KX G (by k_is)
      b_bool := PySem.W.mg_none_of KX G (by k_is)
      b_dict := PySem.W.mg_none_of KX G (by k_is)
      b_enumerate := PySem.W.mg_none_of KX G (by k_is)
      b_int := PySem.W.mg_none_of KX G (by k_is)
      b_isinstance := PySem.W.mg_none_of KX G (by k_is)
      b_len := PySem.W.mg_none_of KX G (by k_is)
      b_list := PySem.W.mg_none_of KX G (by k_is)
      b_range := PySem.W.mg_none_of KX G (by k_is)
      b_set := PySem.W.mg_none_of KX G (by k_is)
      b_sorted := PySem.W.mg_none_of KX G (by k_is)
      b_str := PySem.W.mg_none_of KX G (by k_is)
      b_sum := PySem.W.mg_none_of KX G (by k_is)
      b_tuple := PySem.W.mg_none_of KX G (by k_is)
      b_zip := PySem.W.mg_none_of KX G (by k_is) }
    exact ⟨T.t_law, fun base kws f fd F => TV.ok_law T kws f fd F⟩
