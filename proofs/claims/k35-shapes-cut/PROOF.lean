import PyProof.Rows.All
import Wide.All
import OpenK.AllK
import Wide.FinOn
import HandS.ForMost
import HandS.Style
import HandS.TupAny
import HandS.Deep
import HandS.NoneIn
import HandS.Conv
import HandS.IsInst
import HandS.Gcd
import HandS.SortInts
import HandS.Zip
import HandS.Ends
import HandS.More
import HandS.SortKw
import KE.GoesEnumKw
import KE.SortData
import PySem.Challenge.RW_inkwright_k35_shapes_cut_by_half_planes
set_option Elab.async false
set_option linter.all false
set_option maxRecDepth 100000
set_option maxHeartbeats 4000000
set_option autoImplicit false
namespace Tw
open PySem PySem.Spec PyProof.Rows L2

/-! ### trees -/
inductive T where
  | non | bl (b : Bool) | int (i : Int) | str (x : Str)
  | tup (xs : List T) | lst (xs : List T) | dct (ks vs : List T) | old (xs : List T)
instance : Inhabited T := ⟨.non⟩

abbrev En := List (Option T)
def tK : Key → T
  | .inl i => .int i
  | .inr x => .str x
def tKs (l : List Key) : T := .tup (l.map tK)

mutual
def Rep (K : PySem.W.Frag) (G : Hp) : T → V → Prop
  | .non, v => v = .non
  | .bl b, v => v = .bl b
  | .int i, v => v = .int i
  | .str x, v => v = .str x
  | .tup ts, v => ∃ a vs, v = .ref a ∧ SqT K G a vs ∧ Reps K G ts vs
  | .lst ts, v => ∃ a vs, v = .ref a ∧ G a = some (.lst vs) ∧ Reps K G ts vs
  | .old ts, v => ∃ a vs, v = .ref a ∧ SqL K G a vs ∧ Reps K G ts vs
  | .dct ks ts, v => ∃ a, v = .ref a ∧ ((∃ kvs : List (Key × V), G a = some (.dK kvs) ∧ ks = kvs.map (fun p => tK p.1) ∧ Reps K G ts (kvs.map (·.2))) ∨
      (∃ kvs : List (List Key × V), G a = some (.dT kvs) ∧ ks = kvs.map (fun p => tKs p.1) ∧ Reps K G ts (kvs.map (·.2))))
def Reps (K : PySem.W.Frag) (G : Hp) : List T → List V → Prop
  | [], vs => vs = []
  | t :: ts, vs => ∃ v r, vs = v :: r ∧ Rep K G t v ∧ Reps K G ts r
end

/-- what stands at an owned address -/
def Ho (K : PySem.W.Frag) (G : Hp) (o : HO) : T → Prop
  | .lst ts => ∃ vs, o = .lst vs ∧ Reps K G ts vs
  | .dct ks ts => (∃ kvs : List (Key × V), o = .dK kvs ∧ ks = kvs.map (fun p => tK p.1) ∧ Reps K G ts (kvs.map (·.2))) ∨
      (∃ kvs : List (List Key × V), o = .dT kvs ∧ ks = kvs.map (fun p => tKs p.1) ∧ Reps K G ts (kvs.map (·.2)))
  | _ => False

section
variable {K : PySem.W.Frag} {G G' H H' : Hp}
mutual
theorem Rep.mono (h : Same G G') : ∀ {t : T} {v : V}, Rep K G t v → Rep K G' t v
  | .non, _, r => r
  | .bl _, _, r => r
  | .int _, _, r => r
  | .str _, _, r => r
  | .tup ts, v, r => by
    unfold Rep at r ⊢
    obtain ⟨a, vs, e, s, q⟩ := r
    refine ⟨a, vs, e, ?_, Reps.mono h q⟩
    rcases s with (s | ⟨o, s⟩) | s
    · exact .inl (.inl (h _ _ s))
    · exact .inl (.inr ⟨o, h _ _ s⟩)
    · exact .inr s
  | .lst ts, v, r => by
    unfold Rep at r ⊢
    obtain ⟨a, vs, e, s, q⟩ := r
    exact ⟨a, vs, e, h _ _ s, Reps.mono h q⟩
  | .old ts, v, r => by
    unfold Rep at r ⊢
    obtain ⟨a, vs, e, s, q⟩ := r
    exact ⟨a, vs, e, h.seq s, Reps.mono h q⟩
  | .dct ks ts, v, r => by
    unfold Rep at r ⊢
    obtain ⟨a, e, ⟨kvs, s, e2, q⟩ | ⟨kvs, s, e2, q⟩⟩ := r
    · exact ⟨a, e, .inl ⟨kvs, h _ _ s, e2, Reps.mono h q⟩⟩
    · exact ⟨a, e, .inr ⟨kvs, h _ _ s, e2, Reps.mono h q⟩⟩
theorem Reps.mono (h : Same G G') : ∀ {ts : List T} {vs : List V}, Reps K G ts vs → Reps K G' ts vs
  | [], _, r => r
  | t :: ts, vs, r => by
    unfold Reps at r ⊢
    obtain ⟨v, r', e, a, b⟩ := r
    exact ⟨v, r', e, Rep.mono h a, Reps.mono h b⟩
end
theorem Ho.mono (h : Same G G') {o : HO} {t : T} (r : Ho K G o t) : Ho K G' o t := by
  cases t with
  | lst ts => obtain ⟨vs, e, q⟩ := r; exact ⟨vs, e, q.mono h⟩
  | dct ks ts =>
    rcases r with ⟨kvs, s, e2, q⟩ | ⟨kvs, s, e2, q⟩
    · exact .inl ⟨kvs, s, e2, q.mono h⟩
    · exact .inr ⟨kvs, s, e2, q.mono h⟩
  | non => exact r
  | bl _ => exact r
  | int _ => exact r
  | str _ => exact r
  | tup _ => exact r
  | old _ => exact r
theorem Reps.nil : Reps K G [] [] := by unfold Reps; rfl
theorem Reps.cons {t v ts vs} (a : Rep K G t v) (b : Reps K G ts vs) : Reps K G (t :: ts) (v :: vs) := by unfold Reps; exact ⟨v, vs, rfl, a, b⟩
theorem Reps.length : ∀ {ts : List T} {vs : List V}, Reps K G ts vs → vs.length = ts.length
  | [], _, r => by unfold Reps at r; rw [r]; rfl
  | t :: ts, vs, r => by
    unfold Reps at r
    obtain ⟨v, r', e, a, b⟩ := r
    rw [e, List.length_cons, Reps.length b, List.length_cons]
theorem Reps.get : ∀ {ts : List T} {vs : List V} {i : Nat} {t : T}, Reps K G ts vs → ts[i]? = some t → ∃ v, vs[i]? = some v ∧ Rep K G t v
  | [], _, _, _, _, h => by simp at h
  | t :: ts, vs, 0, t', r, h => by
    unfold Reps at r
    obtain ⟨v, r', e, a, b⟩ := r
    subst e
    have : t = t' := by simpa using h
    subst this
    exact ⟨v, rfl, a⟩
  | t :: ts, vs, i + 1, t', r, h => by
    unfold Reps at r
    obtain ⟨v, r', e, a, b⟩ := r
    subst e
    obtain ⟨v', h1, h2⟩ := Reps.get (i := i) b (by simpa using h)
    exact ⟨v', by simpa using h1, h2⟩
theorem Reps.get' {ts : List T} {vs : List V} {i : Nat} {v : V} (r : Reps K G ts vs) (h : vs[i]? = some v) : ∃ t, ts[i]? = some t ∧ Rep K G t v := by
  have hi : i < ts.length := by
    rw [← r.length]
    exact (List.getElem?_eq_some_iff.mp h).1
  obtain ⟨v', h1, h2⟩ := r.get (List.getElem?_eq_getElem hi)
  rw [h] at h1
  cases h1
  exact ⟨_, List.getElem?_eq_getElem hi, h2⟩
theorem Reps.append : ∀ {ts us : List T} {vs ws : List V}, Reps K G ts vs → Reps K G us ws → Reps K G (ts ++ us) (vs ++ ws)
  | [], _, _, _, r, s => by unfold Reps at r; rw [r]; exact s
  | t :: ts, us, vs, ws, r, s => by
    unfold Reps at r
    obtain ⟨v, r', e, a, b⟩ := r
    subst e
    exact Reps.cons a (Reps.append b s)
theorem Reps.take : ∀ {ts : List T} {vs : List V} (n : Nat), Reps K G ts vs → Reps K G (ts.take n) (vs.take n)
  | _, _, 0, _ => by simpa using Reps.nil
  | [], _, n + 1, r => by unfold Reps at r; rw [r]; simpa using Reps.nil
  | t :: ts, vs, n + 1, r => by
    unfold Reps at r
    obtain ⟨v, r', e, a, b⟩ := r
    subst e
    exact Reps.cons a (Reps.take n b)
theorem Reps.drop : ∀ {ts : List T} {vs : List V} (n : Nat), Reps K G ts vs → Reps K G (ts.drop n) (vs.drop n)
  | _, _, 0, r => r
  | [], _, n + 1, r => by unfold Reps at r; rw [r]; simpa using Reps.nil
  | t :: ts, vs, n + 1, r => by
    unfold Reps at r
    obtain ⟨v, r', e, a, b⟩ := r
    subst e
    exact Reps.drop n b
theorem Reps.set : ∀ {ts : List T} {vs : List V} {t v} (n : Nat), Reps K G ts vs → Rep K G t v → Reps K G (ts.set n t) (vs.set n v)
  | [], _, _, _, _, r, _ => by unfold Reps at r; rw [r]; simpa using Reps.nil
  | t :: ts, vs, _, _, 0, r, q => by
    unfold Reps at r
    obtain ⟨v, r', e, a, b⟩ := r
    subst e
    exact Reps.cons q b
  | t :: ts, vs, _, _, n + 1, r, q => by
    unfold Reps at r
    obtain ⟨v, r', e, a, b⟩ := r
    subst e
    exact Reps.cons a (Reps.set n b q)
theorem Reps.erase : ∀ {ts : List T} {vs : List V} (n : Nat), Reps K G ts vs → Reps K G (ts.eraseIdx n) (vs.eraseIdx n)
  | [], _, _, r => by unfold Reps at r; rw [r]; simpa using Reps.nil
  | t :: ts, vs, 0, r => by
    unfold Reps at r
    obtain ⟨v, r', e, a, b⟩ := r
    subst e
    exact b
  | t :: ts, vs, n + 1, r => by
    unfold Reps at r
    obtain ⟨v, r', e, a, b⟩ := r
    subst e
    exact Reps.cons a (Reps.erase n b)
theorem Reps.dropLast {ts : List T} {vs : List V} (r : Reps K G ts vs) : Reps K G ts.dropLast vs.dropLast := by
  rw [List.dropLast_eq_take, List.dropLast_eq_take, r.length]
  exact r.take _
theorem Reps.reverse : ∀ {ts : List T} {vs : List V}, Reps K G ts vs → Reps K G ts.reverse vs.reverse
  | [], _, r => by unfold Reps at r; rw [r]; simpa using Reps.nil
  | t :: ts, vs, r => by
    unfold Reps at r
    obtain ⟨v, r', e, a, b⟩ := r
    subst e
    rw [List.reverse_cons, List.reverse_cons]
    exact (Reps.reverse b).append (.cons a .nil)
theorem Reps.rep {ts : List T} {vs : List V} (r : Reps K G ts vs) : ∀ k : Nat, Reps K G (List.replicate k ts).flatten (List.replicate k vs).flatten
  | 0 => by simpa using Reps.nil
  | k + 1 => by
    rw [List.replicate_succ, List.replicate_succ, List.flatten_cons, List.flatten_cons]
    exact r.append (Reps.rep r k)
theorem Reps.ints : ∀ {ns : List Int} {vs : List V}, Reps K G (ns.map T.int) vs → vs = ns.map V.int
  | [], _, r => by simpa [Reps] using r
  | n :: ns, vs, r => by
    rw [List.map_cons] at r
    unfold Reps at r
    obtain ⟨v, r', e, a, b⟩ := r
    unfold Rep at a
    rw [e, a, Reps.ints b]
    rfl
theorem Reps.ints_of : ∀ (ns : List Int), Reps K G (ns.map T.int) (ns.map V.int)
  | [] => Reps.nil
  | n :: ns => Reps.cons (by unfold Rep; rfl) (Reps.ints_of ns)
theorem Reps.bls : ∀ {ns : List Bool} {vs : List V}, Reps K G (ns.map T.bl) vs → vs = ns.map V.bl
  | [], _, r => by simpa [Reps] using r
  | n :: ns, vs, r => by
    rw [List.map_cons] at r
    unfold Reps at r
    obtain ⟨v, r', e, a, b⟩ := r
    unfold Rep at a
    rw [e, a, Reps.bls b]
    rfl
theorem Reps.strs : ∀ {ns : List Str} {vs : List V}, Reps K G (ns.map T.str) vs → vs = ns.map V.str
  | [], _, r => by simpa [Reps] using r
  | n :: ns, vs, r => by
    rw [List.map_cons] at r
    unfold Reps at r
    obtain ⟨v, r', e, a, b⟩ := r
    unfold Rep at a
    rw [e, a, Reps.strs b]
    rfl
end

/-! ### the state -/
/-- where a def began: its heap, the lasting part of it, the slots of the lists that it may change and their addresses -/
structure Nt where
  H : Hp
  G : Hp
  pins : List (Nat × Addr)

structure Sta (K : PySem.W.Frag) (N : Nt) (G : Hp) (κ : List Bool) (σ : L2.St) (H : Hp) (γ : En) : Prop where
  le : Same G H
  len : γ.length = σ.length
  shr : ∀ (i : Nat) (t : T), κ[i]? = some false → γ[i]? = some (some t) → ∃ v, σ[i]? = some (some v) ∧ Rep K G t v
  own : ∀ (i : Nat) (t : T), κ[i]? = some true → γ[i]? = some (some t) → ∃ a o, σ[i]? = some (some (.ref a)) ∧ G a = none ∧ H a = some o ∧ Ho K G o t ∧ (N.H a = none ∨ a ∈ N.pins.map (·.2))
  sep : ∀ (i j : Nat) (t u : T) (a : Addr), κ[i]? = some true → κ[j]? = some true → γ[i]? = some (some t) → γ[j]? = some (some u) → σ[i]? = some (some (.ref a)) → σ[j]? = some (some (.ref a)) → i = j
  klen : κ.length = γ.length
  pin : ∀ p ∈ N.pins, κ[p.1]? = some true ∧ (∃ t : T, γ[p.1]? = some (some t)) ∧ σ[p.1]? = some (some (.ref p.2))
  frm : ∀ a o, N.H a = some o → a ∉ N.pins.map (·.2) → H a = some o
  gle : Same N.G G
  gfr : ∀ a, G a ≠ none → N.G a ≠ none ∨ N.H a = none

/-- a value that may be read: lasting, or in an owned slot of B -/
def Rdy (K : PySem.W.Frag) (κ : List Bool) (G : Hp) (σ : L2.St) (γ : En) (B : List Nat) (t : T) (v : V) : Prop :=
  Rep K G t v ∨ ∃ i : Nat, i ∈ B ∧ κ[i]? = some true ∧ γ[i]? = some (some t) ∧ σ[i]? = some (some v)
/-- a new one, nobody else's -/
def Fre (K : PySem.W.Frag) (N : Nt) (κ : List Bool) (G : Hp) (σ : L2.St) (H : Hp) (γ : En) (t : T) (v : V) : Prop :=
  ∃ a o, v = .ref a ∧ G a = none ∧ H a = some o ∧ Ho K G o t ∧ N.H a = none ∧ ∀ (i : Nat) (u : T), κ[i]? = some true → γ[i]? = some (some u) → σ[i]? ≠ some (some (V.ref a))
def Rsl (K : PySem.W.Frag) (m : Bool) (N : Nt) (κ : List Bool) (G : Hp) (σ : L2.St) (H : Hp) (γ : En) (B : List Nat) (t : T) (v : V) : Prop :=
  if m then Fre K N κ G σ H γ t v else Rdy K κ G σ γ B t v

section
variable {K : PySem.W.Frag} {N : Nt} {G G' H H' : Hp} {κ : List Bool} {σ : L2.St} {γ γ' : En} {B B' : List Nat} {t u : T} {v x : V}
theorem Sta.fresh (S : Sta K N G κ σ H γ) {p : Addr} (hp : H p = none) : G p = none ∧ N.H p = none ∧ p ∉ N.pins.map (·.2) := by
  have h1 : G p = none := S.le.free hp
  have h2 : p ∉ N.pins.map (·.2) := fun hm => by
    obtain ⟨q, hq, e⟩ := List.mem_map.mp hm
    obtain ⟨k, ⟨t, ht⟩, hs⟩ := S.pin q hq
    obtain ⟨a, o, e1, _, e3, _⟩ := S.own _ _ k ht
    rw [hs] at e1
    cases e1
    rw [e, hp] at e3
    cases e3
  refine ⟨h1, ?_, h2⟩
  cases q : N.H p with
  | none => rfl
  | some o => rw [S.frm p o q h2] at hp; cases hp
/-- a new object is laid -/
theorem Sta.laid (S : Sta K N G κ σ H γ) {p : Addr} {o : HO} (hp : H p = none) : Sta K N G κ σ (upd H p o) γ := by
  have s1 : Same H (upd H p o) := fun b x e => by rw [upd_ne (ne_of_none e hp)]; exact e
  refine ⟨S.le.trans s1, S.len, S.shr, fun i t k g => ?_, S.sep, S.klen, S.pin, fun a o h n => s1 _ _ (S.frm a o h n), S.gle, S.gfr⟩
  obtain ⟨a, o', e1, e2, e3, e4⟩ := S.own i t k g
  exact ⟨a, o', e1, e2, s1 _ _ e3, e4⟩
theorem Sta.fre (S : Sta K N G κ σ H γ) {p : Addr} {o : HO} (hp : H p = none) (ho : Ho K G o t) : Fre K N κ G σ (upd H p o) γ t (.ref p) := by
  obtain ⟨h1, h2, _⟩ := S.fresh hp
  refine ⟨p, o, rfl, h1, upd_same, ho, h2, fun i u k g e => ?_⟩
  obtain ⟨a, o', e1, _, e3, _⟩ := S.own i u k g
  rw [e] at e1
  cases e1
  rw [hp] at e3
  cases e3
/-- .. and lasts -/
theorem Sta.lasts (S : Sta K N G κ σ H γ) {a : Addr} {o : HO} (h1 : G a = none) (h2 : H a = some o) (h3 : N.H a = none) (h4 : ∀ (i : Nat) (u : T), κ[i]? = some true → γ[i]? = some (some u) → σ[i]? ≠ some (some (V.ref a))) :
    Sta K N (upd G a o) κ σ H γ ∧ Same G (upd G a o) := by
  have s1 : Same G (upd G a o) := fun b x e => by rw [upd_ne (ne_of_none e h1)]; exact e
  refine ⟨⟨fun b x e => ?_, S.len, fun i t k g => ?_, fun i t k g => ?_, S.sep, S.klen, S.pin, S.frm, S.gle.trans s1, fun b hb => ?_⟩, s1⟩
  · by_cases hb : b = a
    · subst hb; rw [upd_same] at e; cases e; exact h2
    · rw [upd_ne hb] at e; exact S.le _ _ e
  · obtain ⟨v, e1, e2⟩ := S.shr i t k g
    exact ⟨v, e1, e2.mono s1⟩
  · obtain ⟨b, o', e1, e2, e3, e4, e5⟩ := S.own i t k g
    refine ⟨b, o', e1, ?_, e3, e4.mono s1, e5⟩
    rw [upd_ne]
    · exact e2
    · rintro rfl; exact h4 i t k g e1
  · by_cases hb' : b = a
    · subst hb'; exact .inr h3
    · rw [upd_ne hb'] at hb; exact S.gfr b hb
theorem Ho.rep {o : HO} {a : Addr} (h : Ho K G o t) (e : G a = some o) : Rep K G t (.ref a) := by
  cases t with
  | lst ts => obtain ⟨vs, rfl, q⟩ := h; unfold Rep; exact ⟨a, vs, rfl, e, q⟩
  | dct ks ts =>
    unfold Rep
    rcases h with ⟨kvs, rfl, e2, q⟩ | ⟨kvs, rfl, e2, q⟩
    · exact ⟨a, rfl, .inl ⟨kvs, e, e2, q⟩⟩
    · exact ⟨a, rfl, .inr ⟨kvs, e, e2, q⟩⟩
  | non => exact h.elim
  | bl _ => exact h.elim
  | int _ => exact h.elim
  | str _ => exact h.elim
  | tup _ => exact h.elim
  | old _ => exact h.elim
theorem Fre.lasts (S : Sta K N G κ σ H γ) (f : Fre K N κ G σ H γ t v) : ∃ G', Same G G' ∧ Sta K N G' κ σ H γ ∧ Rep K G' t v := by
  obtain ⟨a, o, rfl, h1, h2, h3, h4, h5⟩ := f
  obtain ⟨S', s1⟩ := S.lasts h1 h2 h4 h5
  exact ⟨_, s1, S', (h3.mono s1).rep upd_same⟩
theorem Rdy.mono (r : Rdy K κ G σ γ B t v) (h : Same G G') (hM : ∀ i : Nat, i ∈ B → γ'[i]? = γ[i]?) (hB : ∀ i, i ∈ B → i ∈ B') : Rdy K κ G' σ γ' B' t v := by
  rcases r with r | ⟨i, b, k, g, e⟩
  · exact .inl (r.mono h)
  · exact .inr ⟨i, hB i b, k, by rw [hM i b]; exact g, e⟩
theorem Rdy.list {ts : List T} (r : Rdy K κ G σ γ B (.lst ts) v) (S : Sta K N G κ σ H γ) : ∃ a vs, v = .ref a ∧ H a = some (.lst vs) ∧ Reps K G ts vs := by
  rcases r with r | ⟨i, b, k, g, e⟩
  · unfold Rep at r
    obtain ⟨a, vs, e, s, q⟩ := r
    exact ⟨a, vs, e, S.le _ _ s, q⟩
  · obtain ⟨a, o, e1, _, e3, ⟨vs, rfl, q⟩, _⟩ := S.own i _ k g
    rw [e] at e1
    cases e1
    exact ⟨a, vs, rfl, e3, q⟩
theorem Rdy.older {ts : List T} (r : Rdy K κ G σ γ B (.old ts) v) (S : Sta K N G κ σ H γ) : ∃ a vs, v = .ref a ∧ SqL K H a vs ∧ Reps K G ts vs := by
  rcases r with r | ⟨i, b, k, g, e⟩
  · unfold Rep at r
    obtain ⟨a, vs, e, s, q⟩ := r
    exact ⟨a, vs, e, S.le.seq s, q⟩
  · obtain ⟨a, o, e1, _, e3, q, _⟩ := S.own i _ k g
    exact q.elim
theorem Rdy.dict {ks ts : List T} (r : Rdy K κ G σ γ B (.dct ks ts) v) (S : Sta K N G κ σ H γ) : ∃ a o, v = .ref a ∧ H a = some o ∧ Ho K G o (.dct ks ts) := by
  rcases r with r | ⟨i, b, k, g, e⟩
  · unfold Rep at r
    obtain ⟨a, e, ⟨kvs, s, q⟩ | ⟨kvs, s, q⟩⟩ := r
    · exact ⟨a, _, e, S.le _ _ s, .inl ⟨kvs, rfl, q⟩⟩
    · exact ⟨a, _, e, S.le _ _ s, .inr ⟨kvs, rfl, q⟩⟩
  · obtain ⟨a, o, e1, _, e3, q, _⟩ := S.own i _ k g
    rw [e] at e1
    cases e1
    exact ⟨a, o, rfl, e3, q⟩
theorem Same.tup {a : Addr} {xs : List V} (e : Same H H') (h : SqT K H a xs) : SqT K H' a xs := by
  rcases h with (h | ⟨o, h⟩) | h
  · exact .inl (.inl (e _ _ h))
  · exact .inl (.inr ⟨o, e _ _ h⟩)
  · exact .inr h
theorem Rdy.tuple {ts : List T} (r : Rdy K κ G σ γ B (.tup ts) v) (S : Sta K N G κ σ H γ) : ∃ a vs, v = .ref a ∧ SqT K H a vs ∧ Reps K G ts vs := by
  rcases r with r | ⟨i, b, k, g, e⟩
  · unfold Rep at r
    obtain ⟨a, vs, e, s, q⟩ := r
    exact ⟨a, vs, e, Same.tup S.le s, q⟩
  · obtain ⟨a, o, e1, _, e3, q, _⟩ := S.own i _ k g
    exact q.elim
theorem Rdy.int {i : Int} (r : Rdy K κ G σ γ B (.int i) v) (S : Sta K N G κ σ H γ) : v = .int i := by
  rcases r with r | ⟨i, b, k, g, e⟩
  · unfold Rep at r; exact r
  · obtain ⟨a, o, e1, _, e3, q, _⟩ := S.own i _ k g
    exact q.elim
theorem Rdy.bl {i : Bool} (r : Rdy K κ G σ γ B (.bl i) v) (S : Sta K N G κ σ H γ) : v = .bl i := by
  rcases r with r | ⟨i, b, k, g, e⟩
  · unfold Rep at r; exact r
  · obtain ⟨a, o, e1, _, e3, q, _⟩ := S.own i _ k g
    exact q.elim
theorem Rdy.str {i : Str} (r : Rdy K κ G σ γ B (.str i) v) (S : Sta K N G κ σ H γ) : v = .str i := by
  rcases r with r | ⟨i, b, k, g, e⟩
  · unfold Rep at r; exact r
  · obtain ⟨a, o, e1, _, e3, q, _⟩ := S.own i _ k g
    exact q.elim
theorem Rdy.non (r : Rdy K κ G σ γ B .non v) (S : Sta K N G κ σ H γ) : v = .non := by
  rcases r with r | ⟨i, b, k, g, e⟩
  · unfold Rep at r; exact r
  · obtain ⟨a, o, e1, _, e3, q, _⟩ := S.own i _ k g
    exact q.elim
theorem Rdy.rep (r : Rdy K κ G σ γ [] t v) : Rep K G t v := by
  rcases r with r | ⟨i, b, _⟩
  · exact r
  · cases b
end

/-! ### the judgements: what a piece of the program reckons -/
abbrev Ex := En → Option (T × En)
abbrev Tx := En → Option (Bool × En)
abbrev Ax := En → Option (List T × En)
def Keeps (M : List Nat) (γ γ' : En) : Prop := ∀ i : Nat, i ∉ M → γ'[i]? = γ[i]?
theorem Keeps.refl (M : List Nat) (γ : En) : Keeps M γ γ := fun _ _ => rfl
theorem Keeps.trans {M M' : List Nat} {γ γ1 γ2 : En} (a : Keeps M γ γ1) (b : Keeps M' γ1 γ2) : Keeps (M ++ M') γ γ2 := fun i h => by
  rw [List.mem_append, not_or] at h
  rw [b i h.2, a i h.1]
def cE (K : PySem.W.Frag) (m : Bool) (B M : List Nat) (κ : List Bool) (f : Ex) : TE := fun σ H Q => ∃ N G γ r γ', Sta K N G κ σ H γ ∧ f γ = some (r, γ') ∧
  ∀ v G' H', Same G G' → Sta K N G' κ σ H' γ' → Keeps M γ γ' → Rsl K m N κ G' σ H' γ' B r v → Q v H'
def cT (K : PySem.W.Frag) (M : List Nat) (κ : List Bool) (f : Tx) : TT := fun σ H Q => ∃ N G γ r γ', Sta K N G κ σ H γ ∧ f γ = some (r, γ') ∧
  ∀ G' H', Same G G' → Sta K N G' κ σ H' γ' → Keeps M γ γ' → Q r H'
inductive Rdys (K : PySem.W.Frag) (κ : List Bool) (G : Hp) (σ : L2.St) (γ : En) (B : List Nat) : List T → List V → Prop
  | nil : Rdys K κ G σ γ B [] []
  | cons {t v ts vs} : Rdy K κ G σ γ B t v → Rdys K κ G σ γ B ts vs → Rdys K κ G σ γ B (t :: ts) (v :: vs)
def cA (K : PySem.W.Frag) (B M : List Nat) (κ : List Bool) (f : Ax) : TA := fun σ H Q => ∃ N G γ r γ', Sta K N G κ σ H γ ∧ f γ = some (r, γ') ∧
  ∀ vs G' H', Same G G' → Sta K N G' κ σ H' γ' → Keeps M γ γ' → Rdys K κ G' σ γ' B r vs → Q vs H'
/-- an expression: m new or not, B the owned slots that it may hand on, M those that it may change -/
abbrev SX (X : Cx) (e : Expr) (m : Bool) (B M : List Nat) (κ : List Bool) (f : Ex) : Prop := PE X e (cE X.K m B M κ f)
abbrev ST (X : Cx) (e : Expr) (M : List Nat) (κ : List Bool) (f : Tx) : Prop := PT X e (cT X.K M κ f)
abbrev SW (X : Cx) (e : Expr) (M : List Nat) (κ : List Bool) (f : Tx) : Prop := PW X e (cT X.K M κ f)
abbrev SA (X : Cx) (es : List Expr) (B M : List Nat) (κ : List Bool) (f : Ax) : Prop := PA X es (cA X.K B M κ f)

theorem PE.weak {X : Cx} {e : Expr} {t t' : TE} (h : PE X e t) (w : ∀ σ H Q, t' σ H Q → t σ H Q) : PE X e t' := ⟨fun pins s σ H Q I q => h.run pins s σ H Q I (w σ H Q q)⟩
theorem PT.weak {X : Cx} {e : Expr} {t t' : TT} (h : PT X e t) (w : ∀ σ H Q, t' σ H Q → t σ H Q) : PT X e t' := ⟨fun pins s σ H Q I q => h.run pins s σ H Q I (w σ H Q q)⟩
theorem PW.weak {X : Cx} {e : Expr} {t t' : TT} (h : PW X e t) (w : ∀ σ H Q, t' σ H Q → t σ H Q) : PW X e t' := ⟨fun wh pins s σ H Q I q => h.run wh pins s σ H Q I (w σ H Q q)⟩
theorem PA.weak {X : Cx} {e : List Expr} {t t' : TA} (h : PA X e t) (w : ∀ σ H Q, t' σ H Q → t σ H Q) : PA X e t' := ⟨fun pos pins s σ H Q I q => h.run pos pins s σ H Q I (w σ H Q q)⟩
theorem PS.weak {X : Cx} {e : Stmt} {t t' : TS} (h : PS X e t) (w : ∀ D σ H, t' D σ H → t D σ H) : PS X e t' := ⟨fun pins s σ H Q I q => h.run pins s σ H Q I (w Q σ H q)⟩
theorem PSs.weak {X : Cx} {e : List Stmt} {t t' : TS} (h : PSs X e t) (w : ∀ D σ H, t' D σ H → t D σ H) : PSs X e t' := ⟨fun pins s σ H Q I q => h.run pins s σ H Q I (w Q σ H q)⟩
theorem PG.weak {X : Cx} {e : Expr} {t t' : TG} (h : PG X e t) (w : ∀ v σ H Q, t' v σ H Q → t v σ H Q) : PG X e t' := ⟨fun pins s σ H v u Q I r q => h.run pins s σ H v u Q I r (w v σ H Q q)⟩
theorem PI.weak {X : Cx} {tg e : Expr} {t t' : TI} (h : PI X tg e t) (w : ∀ σ H Q, t' σ H Q → t σ H Q) : PI X tg e t' := ⟨fun pins s σ H Q I q => h.run pins s σ H Q I (w σ H Q q)⟩
end Tw

namespace Tw
open PySem PySem.Spec PyProof.Rows L2

/-! ### what the operations reckon -/
def okMul (i j : Int) : Bool := decide (i.natAbs < 2 ^ 64) || decide (j.natAbs < 2 ^ 64) || decide (i.natAbs.log2 + j.natAbs.log2 < 134000000)
def okDiv (j : Int) : Bool := decide (j ≠ 0) && decide (j.natAbs.log2 < 9000)
def gAdd : T → T → Option T
  | .int i, .int j => some (.int (i + j))
  | .str x, .str y => if x.length + y.length ≤ sizeLine then some (.str (x ++ y)) else none
  | .lst x, .lst y => if x.length + y.length ≤ sizeLine then some (.lst (x ++ y)) else none
  | .tup x, .tup y => if x.length + y.length ≤ sizeLine then some (.tup (x ++ y)) else none
  | _, _ => none
def gSub : T → T → Option T
  | .int i, .int j => some (.int (i - j))
  | _, _ => none
def gMul : T → T → Option T
  | .int i, .int j => if okMul i j then some (.int (i * j)) else none
  | .lst x, .int k => if -(2 ^ 63) ≤ k ∧ k < 2 ^ 63 ∧ x.length * k.toNat ≤ sizeLine then some (.lst (List.replicate k.toNat x).flatten) else none
  | _, _ => none
def gMod : T → T → Option T
  | .int i, .int j => if j ≠ 0 then some (.int (i.fmod j)) else none
  | _, _ => none
def gDiv : T → T → Option T
  | .int i, .int j => if okDiv j then some (.int (i.fdiv j)) else none
  | _, _ => none
def gPow : T → T → Option T
  | .int i, .int j => if 0 ≤ j ∧ j ≤ 1000000 ∧ i.natAbs < 2 ^ 64 then some (.int (i ^ j.toNat)) else none
  | _, _ => none
def gLt : T → T → Option T
  | .int i, .int j => some (.bl (decide (i < j)))
  | _, _ => none
def gLe : T → T → Option T
  | .int i, .int j => some (.bl (decide (i ≤ j)))
  | _, _ => none
def gGt : T → T → Option T
  | .int i, .int j => some (.bl (decide (j < i)))
  | _, _ => none
def gGe : T → T → Option T
  | .int i, .int j => some (.bl (decide (j ≤ i)))
  | _, _ => none
/-- data of a bounded depth -/
def okN : Nat → T → Bool
  | _, .non => true
  | _, .bl _ => true
  | _, .int _ => true
  | _, .str x => PySem.PyData.strOk x
  | n + 1, .lst ts => ts.all (okN n)
  | n + 1, .tup ts => ts.all (okN n)
  | _, _ => false
mutual
def toD : T → PyData
  | .non => .none
  | .bl b => .bool b
  | .int i => .int i
  | .str x => .str x
  | .tup ts => .tuple (toDs ts)
  | .lst ts => .list (toDs ts)
  | .dct _ _ => .dict []
  | .old _ => .dict []
def toDs : List T → List PyData
  | [] => []
  | t :: ts => toD t :: toDs ts
end
def eqT (a b : T) : Bool := PyData.eqv (toD a) (toD b)
def okT (t : T) : Bool := okN 60 t
def gEq (a b : T) : Option T := if okT a && okT b then some (.bl (eqT a b)) else none
def gNe (a b : T) : Option T := if okT a && okT b then some (.bl (!eqT a b)) else none
def isT : T → T → Option Bool
  | .non, .non => some true
  | _, .non => some false
  | .bl a, .bl b => some (a == b)
  | _, .bl _ => some false
  | _, _ => none
def gIs (a b : T) : Option T := (isT a b).map T.bl
def gIsNot (a b : T) : Option T := (isT a b).map fun k => T.bl (!k)
def gNeg : T → Option T
  | .int i => some (.int (-i))
  | _ => none

/-! ### the combinators -/
def eVar (i : Nat) : Ex := fun γ => match γ[i]? with
  | some (some t) => some (t, γ)
  | _ => none
def eLit (t : T) : Ex := fun γ => some (t, γ)
def eBin (g : T → T → Option T) (a b : Ex) : Ex := fun γ => (a γ).bind fun p => (b p.2).bind fun q => (g p.1 q.1).map fun r => (r, q.2)
def eUn (g : T → Option T) (a : Ex) : Ex := fun γ => (a γ).bind fun p => (g p.1).map fun r => (r, p.2)
def eChain (g g' : T → T → Option T) (a b c : Ex) : Ex := fun γ => (a γ).bind fun p => (b p.2).bind fun q => match g p.1 q.1 with
  | some (.bl true) => (c q.2).bind fun r => (g' q.1 r.1).map fun z => (z, r.2)
  | some (.bl false) => some (.bl false, q.2)
  | _ => none
def tOf (f : Ex) : Tx := fun γ => match f γ with
  | some (.bl b, γ') => some (b, γ')
  | _ => none
def eOf (f : Tx) : Ex := fun γ => (f γ).map fun p => (.bl p.1, p.2)
def eNot (f : Ex) : Ex := fun γ => match f γ with
  | some (.bl b, γ') => some (.bl (!b), γ')
  | _ => none
def eAnd (f g : Ex) : Ex := fun γ => match f γ with
  | some (.bl true, γ') => g γ'
  | some (.bl false, γ') => some (.bl false, γ')
  | _ => none
def eOr (f g : Ex) : Ex := fun γ => match f γ with
  | some (.bl false, γ') => g γ'
  | some (.bl true, γ') => some (.bl true, γ')
  | _ => none
def tNotT (f : Tx) : Tx := fun γ => (f γ).map fun p => (!p.1, p.2)
def tAndT (f g : Tx) : Tx := fun γ => (f γ).bind fun p => if p.1 then g p.2 else some (false, p.2)
def tOrT (f g : Tx) : Tx := fun γ => (f γ).bind fun p => if p.1 then some (true, p.2) else g p.2
def eIf (c : Tx) (a b : Ex) : Ex := fun γ => (c γ).bind fun p => if p.1 then a p.2 else b p.2
def truT : T → Option Bool
  | .non => some false
  | .bl b => some b
  | .int i => some (i != 0)
  | .str y => if y.length ≤ sizeLine then some ((y.length : Int) != 0) else none
  | .lst ts => some (!ts.isEmpty)
  | .old ts => some (!ts.isEmpty)
  | .tup ts => some (!ts.isEmpty)
  | .dct _ _ => none
def tTru (f : Ex) : Tx := fun γ => (f γ).bind fun p => (truT p.1).map fun k => (k, p.2)
def aNil : Ax := fun γ => some ([], γ)
def aCons (f : Ex) (g : Ax) : Ax := fun γ => (f γ).bind fun p => (g p.2).map fun q => (p.1 :: q.1, q.2)
def eCall (g : List T → Option T) (a : Ax) : Ex := fun γ => (a γ).bind fun p => (g p.1).map fun r => (r, p.2)

section
variable {K : PySem.W.Frag} {N : Nt} {G G' H H' : Hp} {κ : List Bool} {σ : L2.St} {γ γ' : En} {B B' : List Nat} {t u : T} {v x : V}

/-! ### atoms and references -/
def atV : T → Option V
  | .non => some .non
  | .bl b => some (.bl b)
  | .int i => some (.int i)
  | .str x => some (.str x)
  | _ => none
theorem Rdy.atom (r : Rdy K κ G σ γ B t v) (S : Sta K N G κ σ H γ) : match atV t with | some w => v = w | none => ∃ a, v = .ref a := by
  cases t with
  | non => exact r.non S
  | bl _ => exact r.bl S
  | int _ => exact r.int S
  | str _ => exact r.str S
  | tup _ => obtain ⟨a, _, e, _⟩ := r.tuple S; exact ⟨a, e⟩
  | lst _ => obtain ⟨a, _, e, _⟩ := r.list S; exact ⟨a, e⟩
  | old _ => obtain ⟨a, _, e, _⟩ := r.older S; exact ⟨a, e⟩
  | dct _ _ => obtain ⟨a, _, e, _⟩ := r.dict S; exact ⟨a, e⟩
theorem Rdy.tupRep {ts : List T} (r : Rdy K κ G σ γ B (.tup ts) v) (S : Sta K N G κ σ H γ) : Rep K G (.tup ts) v := by
  rcases r with r | ⟨i, b, k, g, e⟩
  · exact r
  · obtain ⟨a, o, e1, _, e3, q, _⟩ := S.own i _ k g
    exact q.elim
theorem Rep.int {i : Int} : Rep K G (.int i) (.int i) := by unfold Rep; rfl
theorem Rep.bl {i : Bool} : Rep K G (.bl i) (.bl i) := by unfold Rep; rfl
theorem Rep.str {i : Str} : Rep K G (.str i) (.str i) := by unfold Rep; rfl
theorem Rep.non : Rep K G .non .non := by unfold Rep; rfl
theorem Rep.rdy (r : Rep K G t v) : Rdy K κ G σ γ B t v := .inl r
theorem Rsl.old (r : Rep K G t v) : Rsl K false N κ G σ H γ B t v := by unfold Rsl; rw [if_neg (by decide)]; exact .inl r
theorem Rsl.new (r : Fre K N κ G σ H γ t v) : Rsl K true N κ G σ H γ B t v := by unfold Rsl; rw [if_pos rfl]; exact r
theorem Rsl.rdy (r : Rsl K false N κ G σ H γ B t v) : Rdy K κ G σ γ B t v := by unfold Rsl at r; rw [if_neg (by decide)] at r; exact r
theorem Rsl.fre (r : Rsl K true N κ G σ H γ B t v) : Fre K N κ G σ H γ t v := by unfold Rsl at r; rw [if_pos rfl] at r; exact r
/-- a new tuple is laid and lasts -/
theorem Sta.tupled (S : Sta K N G κ σ H γ) {p : Addr} {ts : List T} {vs : List V} (hp : H p = none) (r : Reps K G ts vs) :
    ∃ G', Same G G' ∧ Sta K N G' κ σ (upd H p (.tup vs)) γ ∧ Rep K G' (.tup ts) (.ref p) := by
  obtain ⟨h1, h2, h3⟩ := S.fresh hp
  have S1 : Sta K N G κ σ (upd H p (.tup vs)) γ := S.laid hp
  obtain ⟨S2, s2⟩ := S1.lasts h1 upd_same h2 fun i u k g e => by
    obtain ⟨a, o', e1, _, e3, _⟩ := S.own i u k g
    rw [e] at e1
    cases e1
    rw [hp] at e3
    cases e3
  refine ⟨_, s2, S2, ?_⟩
  unfold Rep
  exact ⟨p, vs, rfl, .inl (.inl upd_same), r.mono s2⟩
/-- a new list -/
theorem Sta.listed (S : Sta K N G κ σ H γ) {p : Addr} {ts : List T} {vs : List V} (hp : H p = none) (r : Reps K G ts vs) :
    Sta K N G κ σ (upd H p (.lst vs)) γ ∧ Fre K N κ G σ (upd H p (.lst vs)) γ (.lst ts) (.ref p) := ⟨S.laid hp, S.fre hp ⟨vs, rfl, r⟩⟩
theorem Sta.listedL (S : Sta K N G κ σ H γ) {p : Addr} {ts : List T} {vs : List V} (hp : H p = none) (r : Reps K G ts vs) :
    ∃ G', Same G G' ∧ Sta K N G' κ σ (upd H p (.lst vs)) γ ∧ Rep K G' (.lst ts) (.ref p) := by
  obtain ⟨S1, f⟩ := S.listed hp r
  exact f.lasts S1

/-! ### rules by values -/
def Op2 (K : PySem.W.Frag) (r : R2) (m : Bool) (g : T → T → Option T) : Prop :=
  ∀ (N : Nt) (G : Hp) (κ : List Bool) (σ : L2.St) (H : Hp) (γ : En) (B B' : List Nat) (tx ty tz : T) (x y : V), Sta K N G κ σ H γ → Rdy K κ G σ γ B tx x → Rdy K κ G σ γ B' ty y → g tx ty = some tz →
    ∀ Q : VK, (∀ v G' H', Same G G' → Sta K N G' κ σ H' γ → Rsl K m N κ G' σ H' γ [] tz v → Q v H') → r x y H Q
def Op1 (K : PySem.W.Frag) (r : V → Hp → VK → Prop) (m : Bool) (g : T → Option T) : Prop :=
  ∀ (N : Nt) (G : Hp) (κ : List Bool) (σ : L2.St) (H : Hp) (γ : En) (B : List Nat) (tx tz : T) (x : V), Sta K N G κ σ H γ → Rdy K κ G σ γ B tx x → g tx = some tz →
    ∀ Q : VK, (∀ v G' H', Same G G' → Sta K N G' κ σ H' γ → Rsl K m N κ G' σ H' γ [] tz v → Q v H') → r x H Q
def FnT (K : PySem.W.Frag) (r : List V → Hp → VK → Prop) (m : Bool) (g : List T → Option T) : Prop :=
  ∀ (N : Nt) (G : Hp) (κ : List Bool) (σ : L2.St) (H : Hp) (γ : En) (B : List Nat) (ts : List T) (tz : T) (xs : List V), Sta K N G κ σ H γ → Rdys K κ G σ γ B ts xs → g ts = some tz →
    ∀ Q : VK, (∀ v G' H', Same G G' → Sta K N G' κ σ H' γ → Rsl K m N κ G' σ H' γ [] tz v → Q v H') → r xs H Q
end

section
variable {X : Cx} {K : PySem.W.Frag}
theorem op_mulX : OpR X (binaryOp .Mult) (rI (fun i j => okMul i j = true) fun i j => .int (i * j)) := opI fun i j _ _ _ _ _ hc q => by
  refine mul_int q ?_
  unfold okMul at hc
  simp only [Bool.or_eq_true, decide_eq_true_eq] at hc
  rcases hc with (hc | hc) | hc
  · exact .of_left (intBits_le_64 (by omega) (by omega))
  · exact .of_right (intBits_le_64 (by omega) (by omega))
  · have b : ∀ x : Int, Builtin.Int.intBits x ≤ x.natAbs.log2 + 1 := fun x => by
      unfold Builtin.Int.intBits
      split <;> omega
    have h1 := b i
    have h2 := b j
    have e : bitsLine = 134217728 := by decide
    unfold IntMulOk
    intro z
    rw [Bool.and_eq_true] at z
    have z2 := z.2
    unfold Builtin.Int.intTooBig at z2
    have z3 := of_decide_eq_true z2
    rw [e] at z3
    omega
theorem op_divX : OpR X (binaryOp .FloorDiv) (rI (fun _ j => okDiv j = true) fun i j => .int (i.fdiv j)) := opI fun i j _ _ _ _ _ hc q => by
  unfold okDiv at hc
  simp only [Bool.and_eq_true, decide_eq_true_eq] at hc
  exact floordiv_int hc.1 q (.inl (PyProof.noPylong_of_log2 hc.2))
/-- is of anything and a bool or None -/
def rIsP (neg : Bool) : R2 := fun x y H Q => (y = .non ∨ ∃ b, y = .bl b) ∧ Q (.bl (if neg then !decide (x = y) else decide (x = y))) H
theorem relV_bool {x : V} {v : Value} {b : Bool} (r : RelV x v) : (v == Value.bool b) = decide (x = .bl b) := by
  cases x with
  | non => cases r; rfl
  | bl c => cases r; cases b <;> cases c <;> rfl
  | int _ => obtain ⟨t, rfl⟩ := r; rfl
  | str _ => obtain ⟨t, rfl⟩ := r; rfl
  | byt _ => obtain ⟨t, rfl⟩ := r; rfl
  | flt _ => obtain ⟨t, rfl⟩ := r; rfl
  | ref _ => cases r; rfl
  | ty _ => cases r; rfl
theorem plain_bool {x : V} {v : Value} {b : Bool} (r : RelV x v) : plainIs v (.bool b) = true := by
  cases x with
  | non => cases r; rfl
  | bl c => cases r; rfl
  | int _ => obtain ⟨t, rfl⟩ := r; rfl
  | str _ => obtain ⟨t, rfl⟩ := r; rfl
  | byt _ => obtain ⟨t, rfl⟩ := r; rfl
  | flt _ => obtain ⟨t, rfl⟩ := r; rfl
  | ref _ => cases r; rfl
  | ty _ => cases r; rfl
theorem op_isP : OpR X (compareOp .Is) (rIsP false) := by
  intro pins s σ H x y v u Q I rx ry h
  obtain ⟨rfl | ⟨b, rfl⟩, q⟩ := h
  · cases (show u = Value.none from ry)
    exact is_none_gen ⟨.bl _, H, I, by rw [rx.none_iff]; rfl, q⟩
  · cases (show u = Value.bool b from ry)
    exact wpAny_is_plain (plain_bool rx) ⟨.bl _, H, I, by rw [relV_bool rx]; rfl, q⟩
theorem op_isNotP : OpR X (compareOp .IsNot) (rIsP true) := by
  intro pins s σ H x y v u Q I rx ry h
  obtain ⟨rfl | ⟨b, rfl⟩, q⟩ := h
  · cases (show u = Value.none from ry)
    exact isnot_none_gen ⟨.bl _, H, I, by rw [rx.none_iff]; rfl, q⟩
  · cases (show u = Value.bool b from ry)
    exact wpAny_isNot_plain (plain_bool rx) ⟨.bl _, H, I, by rw [relV_bool rx]; rfl, q⟩

theorem o2_ints {C : Int → Int → Prop} {f : Int → Int → V} {g : T → T → Option T} (h : ∀ a b t, g a b = some t → ∃ i j, a = .int i ∧ b = .int j ∧ C i j ∧ ∀ G, Rep K G t (f i j)) : Op2 K (rI C f) false g := by
  intro N G κ σ H γ B B' tx ty tz x y S rx ry e Q q
  obtain ⟨i, j, rfl, rfl, c, r⟩ := h _ _ _ e
  exact ⟨i, j, rx.int S, ry.int S, c, q _ G H (Same.refl _) S (.old (r G))⟩
theorem o2_ints0 {f : Int → Int → V} {g : T → T → Option T} (h : ∀ a b t, g a b = some t → ∃ i j, a = .int i ∧ b = .int j ∧ ∀ G, Rep K G t (f i j)) : Op2 K (rI0 f) false g := by
  intro N G κ σ H γ B B' tx ty tz x y S rx ry e Q q
  obtain ⟨i, j, rfl, rfl, r⟩ := h _ _ _ e
  exact ⟨i, j, rx.int S, ry.int S, q _ G H (Same.refl _) S (.old (r G))⟩
theorem o2_sub : Op2 K (rI0 fun i j => .int (i - j)) false gSub := o2_ints0 fun a b t e => by
  unfold gSub at e
  split at e <;> cases e
  exact ⟨_, _, rfl, rfl, fun G => Rep.int⟩
theorem o2_mod : Op2 K (rI (fun _ j => j ≠ 0) fun i j => .int (i.fmod j)) false gMod := o2_ints fun a b t e => by
  unfold gMod at e
  split at e
  · split at e <;> cases e
    exact ⟨_, _, rfl, rfl, by assumption, fun G => Rep.int⟩
  · cases e
theorem o2_div : Op2 K (rI (fun _ j => okDiv j = true) fun i j => .int (i.fdiv j)) false gDiv := o2_ints fun a b t e => by
  unfold gDiv at e
  split at e
  · split at e <;> cases e
    exact ⟨_, _, rfl, rfl, by assumption, fun G => Rep.int⟩
  · cases e
theorem o2_pow : Op2 K (rI CPow fun i j => .int (i ^ j.toNat)) false gPow := o2_ints fun a b t e => by
  unfold gPow at e
  split at e
  · split at e <;> cases e
    exact ⟨_, _, rfl, rfl, by assumption, fun G => Rep.int⟩
  · cases e
theorem o2_lt : Op2 K (rI0 fun i j => .bl (decide (i < j))) false gLt := o2_ints0 fun a b t e => by
  unfold gLt at e
  split at e <;> cases e
  exact ⟨_, _, rfl, rfl, fun G => Rep.bl⟩
theorem o2_le : Op2 K (rI0 fun i j => .bl (decide (i ≤ j))) false gLe := o2_ints0 fun a b t e => by
  unfold gLe at e
  split at e <;> cases e
  exact ⟨_, _, rfl, rfl, fun G => Rep.bl⟩
theorem o2_gt : Op2 K (rI0 fun i j => .bl (decide (j < i))) false gGt := o2_ints0 fun a b t e => by
  unfold gGt at e
  split at e <;> cases e
  exact ⟨_, _, rfl, rfl, fun G => Rep.bl⟩
theorem o2_ge : Op2 K (rI0 fun i j => .bl (decide (j ≤ i))) false gGe := o2_ints0 fun a b t e => by
  unfold gGe at e
  split at e <;> cases e
  exact ⟨_, _, rfl, rfl, fun G => Rep.bl⟩
def rAddX (K : PySem.W.Frag) : R2 := fun x y H Q => (∃ i j, x = .int i ∧ y = .int j ∧ Q (.int (i + j)) H) ∨ (∃ i j, x = .str i ∧ y = .str j ∧ i.length + j.length ≤ sizeLine ∧ Q (.str (i ++ j)) H) ∨ rCat x y H Q ∨ rCatA K x y H Q
theorem op_addX : OpR X (binaryOp .Add) (rAddX X.K) := OpR.or op_add (OpR.or op_add_str (OpR.or op_cat op_catA))
theorem o2_add : Op2 K (rAddX K) false gAdd := by
  intro N G κ σ H γ B B' tx ty tz x y S rx ry e Q q
  unfold gAdd at e
  split at e
  · cases e
    exact .inl ⟨_, _, rx.int S, ry.int S, q _ G H (Same.refl _) S (.old .int)⟩
  · split at e <;> cases e
    exact .inr (.inl ⟨_, _, rx.str S, ry.str S, by assumption, q _ G H (Same.refl _) S (.old .str)⟩)
  · split at e <;> cases e
    obtain ⟨a, vs, rfl, h1, r1⟩ := rx.list S
    obtain ⟨b, ws, rfl, h2, r2⟩ := ry.list S
    refine .inr (.inr (.inl ⟨a, b, vs, ws, rfl, rfl, h1, h2, by rw [r1.length, r2.length]; assumption, fun p hp => ?_⟩))
    obtain ⟨G', s, S', r⟩ := S.listedL hp (r1.append r2)
    exact q _ G' _ s S' (.old r)
  · split at e <;> cases e
    obtain ⟨a, vs, rfl, h1, r1⟩ := rx.tuple S
    obtain ⟨b, ws, rfl, h2, r2⟩ := ry.tuple S
    have k1 := Rdy.tupRep rx S
    have k2 := Rdy.tupRep ry S
    refine .inr (.inr (.inr ⟨a, b, vs, ws, rfl, rfl, h1, h2, by rw [r1.length, r2.length]; assumption, fun z => ?_, fun z z2 => ?_, fun z z2 p hp => ?_⟩))
    · have z' := r1.length
      rw [z] at z'
      have z3 := List.eq_nil_of_length_eq_zero z'.symm
      rw [z3] at q
      exact q _ G H (Same.refl _) S (.old k2)
    · have z' := r2.length
      rw [z2] at z'
      have z3 := List.eq_nil_of_length_eq_zero z'.symm
      rw [z3, List.append_nil] at q
      exact q _ G H (Same.refl _) S (.old k1)
    · obtain ⟨G', s, S', r⟩ := S.tupled hp (r1.append r2)
      exact q _ G' _ s S' (.old r)
  · cases e
/-- a new list by + -/
def gCat : T → T → Option T
  | .lst x, .lst y => if x.length + y.length ≤ sizeLine then some (.lst (x ++ y)) else none
  | _, _ => none
theorem o2_cat : Op2 K rCat true gCat := by
  intro N G κ σ H γ B B' tx ty tz x y S rx ry e Q q
  unfold gCat at e
  split at e
  · split at e <;> cases e
    obtain ⟨a, vs, rfl, h1, r1⟩ := rx.list S
    obtain ⟨b, ws, rfl, h2, r2⟩ := ry.list S
    refine ⟨a, b, vs, ws, rfl, rfl, h1, h2, by rw [r1.length, r2.length]; assumption, fun p hp => ?_⟩
    obtain ⟨S', f⟩ := S.listed hp (r1.append r2)
    exact q _ G _ (Same.refl _) S' (.new f)
  · cases e
theorem o2_mul : Op2 K (fun x y H Q => rI (fun i j => okMul i j = true) (fun i j => .int (i * j)) x y H Q ∨ rRep x y H Q) false gMul := by
  intro N G κ σ H γ B B' tx ty tz x y S rx ry e Q q
  unfold gMul at e
  split at e
  · split at e <;> cases e
    exact .inl ⟨_, _, rx.int S, ry.int S, by assumption, q _ G H (Same.refl _) S (.old .int)⟩
  · split at e <;> cases e
    rename_i hz
    obtain ⟨a, vs, rfl, h1, r1⟩ := rx.list S
    refine .inr ⟨a, _, vs, rfl, ry.int S, h1, hz.1, hz.2.1, by rw [r1.length]; exact hz.2.2, fun p hp => ?_⟩
    obtain ⟨G', s, S', r⟩ := S.listedL hp (r1.rep _)
    exact q _ G' _ s S' (.old r)
  · cases e
def gRep : T → T → Option T
  | .lst x, .int k => if -(2 ^ 63) ≤ k ∧ k < 2 ^ 63 ∧ x.length * k.toNat ≤ sizeLine then some (.lst (List.replicate k.toNat x).flatten) else none
  | _, _ => none
theorem o2_rep : Op2 K rRep true gRep := by
  intro N G κ σ H γ B B' tx ty tz x y S rx ry e Q q
  unfold gRep at e
  split at e
  · split at e <;> cases e
    rename_i hz
    obtain ⟨a, vs, rfl, h1, r1⟩ := rx.list S
    refine ⟨a, _, vs, rfl, ry.int S, h1, hz.1, hz.2.1, by rw [r1.length]; exact hz.2.2, fun p hp => ?_⟩
    obtain ⟨S', f⟩ := S.listed hp (r1.rep _)
    exact q _ G _ (Same.refl _) S' (.new f)
  · cases e
theorem op_mulY : OpR X (binaryOp .Mult) (fun x y H Q => rI (fun i j => okMul i j = true) (fun i j => .int (i * j)) x y H Q ∨ rRep x y H Q) := OpR.or op_mulX op_rep
theorem isT_of {N : Nt} {G H : Hp} {κ : List Bool} {σ : L2.St} {γ : En} {B B' : List Nat} {tx ty : T} {x y : V} {k : Bool} (S : Sta K N G κ σ H γ) (rx : Rdy K κ G σ γ B tx x) (ry : Rdy K κ G σ γ B' ty y)
    (e : isT tx ty = some k) : (y = .non ∨ ∃ b, y = .bl b) ∧ decide (x = y) = k := by
  have hx := rx.atom S
  cases ty with
  | non =>
    have ey : y = .non := ry.non S
    subst ey
    refine ⟨.inl rfl, ?_⟩
    cases tx <;> simp only [atV] at hx <;> simp only [isT, Option.some.injEq] at e <;> first | (obtain ⟨a, rfl⟩ := hx; rw [← e]; exact decide_eq_false (fun z => nomatch z)) | (rw [hx, ← e]; first | exact decide_eq_true rfl | exact decide_eq_false (fun z => nomatch z))
  | bl b =>
    have ey : y = .bl b := ry.bl S
    subst ey
    refine ⟨.inr ⟨b, rfl⟩, ?_⟩
    cases tx <;> simp only [atV] at hx <;> simp only [isT, Option.some.injEq] at e <;> first | (obtain ⟨a, rfl⟩ := hx; rw [← e]; exact decide_eq_false (fun z => nomatch z)) | (rw [hx, ← e]; first | exact decide_eq_false (fun z => nomatch z) | (rename_i c; cases b <;> cases c <;> rfl))
  | int _ => cases tx <;> simp [isT] at e
  | str _ => cases tx <;> simp [isT] at e
  | tup _ => cases tx <;> simp [isT] at e
  | lst _ => cases tx <;> simp [isT] at e
  | old _ => cases tx <;> simp [isT] at e
  | dct _ _ => cases tx <;> simp [isT] at e
theorem o2_is : Op2 K (rIsP false) false gIs := by
  intro N G κ σ H γ B B' tx ty tz x y S rx ry e Q q
  unfold gIs at e
  obtain ⟨k, e1, rfl⟩ := Option.map_eq_some_iff.mp e
  obtain ⟨h1, h2⟩ := isT_of S rx ry e1
  refine ⟨h1, ?_⟩
  rw [if_neg (by decide), h2]
  exact q _ G H (Same.refl _) S (.old .bl)
theorem o2_isNot : Op2 K (rIsP true) false gIsNot := by
  intro N G κ σ H γ B B' tx ty tz x y S rx ry e Q q
  unfold gIsNot at e
  obtain ⟨k, e1, rfl⟩ := Option.map_eq_some_iff.mp e
  obtain ⟨h1, h2⟩ := isT_of S rx ry e1
  refine ⟨h1, ?_⟩
  rw [if_pos rfl, h2]
  exact q _ G H (Same.refl _) S (.old .bl)

/-! ### equality of data -/
theorem dps_of {G H : Hp} {n : Nat} (ih : ∀ (t : T) (v : V), okN n t = true → Rep K G t v → Dp K H v (toD t) ∧ (toD t).canLay0 = true ∧ (toD t).depth ≤ n) :
    ∀ (ts : List T) (vs : List V), ts.all (okN n) = true → Reps K G ts vs → DpAll K H vs (toDs ts) ∧ PyData.canLayAll0 (toDs ts) = true ∧ PyData.depthAll (toDs ts) ≤ n
  | [], vs, _, r => by
    unfold Reps at r
    subst r
    exact ⟨.nil, rfl, Nat.zero_le _⟩
  | t :: ts, vs, e, r => by
    unfold Reps at r
    obtain ⟨v, r', rfl, a, b⟩ := r
    rw [List.all_cons, Bool.and_eq_true] at e
    obtain ⟨d1, l1, p1⟩ := ih t v e.1 a
    obtain ⟨d2, l2, p2⟩ := dps_of ih ts r' e.2 b
    refine ⟨.cons d1 d2, ?_, ?_⟩
    · show ((toD t).canLay0 && PyData.canLayAll0 (toDs ts)) = true
      rw [l1, l2]; rfl
    · show max (toD t).depth (PyData.depthAll (toDs ts)) ≤ n
      omega
theorem dp_of {G H : Hp} (h : Same G H) : ∀ (n : Nat) (t : T) (v : V), okN n t = true → Rep K G t v → Dp K H v (toD t) ∧ (toD t).canLay0 = true ∧ (toD t).depth ≤ n := by
  intro n
  induction n with
  | zero =>
    intro t v e r
    cases t with
    | non => unfold Rep at r; subst r; exact ⟨.non, rfl, Nat.zero_le _⟩
    | bl b => unfold Rep at r; subst r; exact ⟨.bl b, rfl, Nat.zero_le _⟩
    | int i => unfold Rep at r; subst r; exact ⟨.int i, rfl, Nat.zero_le _⟩
    | str x => unfold Rep at r; subst r; exact ⟨.str x, e, Nat.zero_le _⟩
    | tup _ => cases e
    | lst _ => cases e
    | old _ => cases e
    | dct _ _ => cases e
  | succ n ih =>
    intro t v e r
    cases t with
    | non => unfold Rep at r; subst r; exact ⟨.non, rfl, Nat.zero_le _⟩
    | bl b => unfold Rep at r; subst r; exact ⟨.bl b, rfl, Nat.zero_le _⟩
    | int i => unfold Rep at r; subst r; exact ⟨.int i, rfl, Nat.zero_le _⟩
    | str x => unfold Rep at r; subst r; exact ⟨.str x, e, Nat.zero_le _⟩
    | tup ts =>
      unfold Rep at r
      obtain ⟨a, vs, rfl, s, q⟩ := r
      obtain ⟨d, l, p⟩ := dps_of ih ts vs e q
      exact ⟨.tup (Same.tup h s) d, l, Nat.succ_le_succ p⟩
    | lst ts =>
      unfold Rep at r
      obtain ⟨a, vs, rfl, s, q⟩ := r
      obtain ⟨d, l, p⟩ := dps_of ih ts vs e q
      exact ⟨.lst (.inl (.inl (h _ _ s))) d, l, Nat.succ_le_succ p⟩
    | old _ => cases e
    | dct _ _ => cases e
theorem shaped_of {t : T} (h1 : (toD t).canLay0 = true) (h2 : (toD t).depth ≤ 60) : SeqAt.shaped (toD t) = true := by
  unfold SeqAt.shaped
  rw [h1, decide_eq_true (by omega)]
  rfl
theorem Rdy.dp {N : Nt} {G H : Hp} {κ : List Bool} {σ : L2.St} {γ : En} {B : List Nat} {t : T} {v : V} (r : Rdy K κ G σ γ B t v) (S : Sta K N G κ σ H γ) (e : okT t = true) : Dp K H v (toD t) ∧ SeqAt.shaped (toD t) = true := by
  rcases r with r | ⟨i, b, k, g, z⟩
  · obtain ⟨d, l, p⟩ := dp_of S.le 60 t v e r
    exact ⟨d, shaped_of l p⟩
  · cases t with
    | lst ts =>
      obtain ⟨a, vs, rfl, h1, r1⟩ := Rdy.list (.inr ⟨i, b, k, g, z⟩) S
      obtain ⟨d, l, p⟩ := dps_of (dp_of S.le 59) ts vs e r1
      exact ⟨.lst (.inl (.inl h1)) d, shaped_of l (Nat.succ_le_succ p)⟩
    | dct _ _ => cases e
    | non => obtain ⟨a, o, e1, _, e3, q, _⟩ := S.own i _ k g; exact q.elim
    | bl _ => obtain ⟨a, o, e1, _, e3, q, _⟩ := S.own i _ k g; exact q.elim
    | int _ => obtain ⟨a, o, e1, _, e3, q, _⟩ := S.own i _ k g; exact q.elim
    | str _ => obtain ⟨a, o, e1, _, e3, q, _⟩ := S.own i _ k g; exact q.elim
    | tup _ => obtain ⟨a, o, e1, _, e3, q, _⟩ := S.own i _ k g; exact q.elim
    | old _ => obtain ⟨a, o, e1, _, e3, q, _⟩ := S.own i _ k g; exact q.elim
theorem o2_eq : Op2 K (rEqD K) false gEq := by
  intro N G κ σ H γ B B' tx ty tz x y S rx ry e Q q
  unfold gEq at e
  split at e <;> cases e
  rename_i h
  rw [Bool.and_eq_true] at h
  obtain ⟨d1, s1⟩ := rx.dp S h.1
  obtain ⟨d2, s2⟩ := ry.dp S h.2
  exact ⟨_, _, d1, d2, s1, s2, q _ G H (Same.refl _) S (.old .bl)⟩
theorem o2_ne : Op2 K (rNeD K) false gNe := by
  intro N G κ σ H γ B B' tx ty tz x y S rx ry e Q q
  unfold gNe at e
  split at e <;> cases e
  rename_i h
  rw [Bool.and_eq_true] at h
  obtain ⟨d1, s1⟩ := rx.dp S h.1
  obtain ⟨d2, s2⟩ := ry.dp S h.2
  exact ⟨_, _, d1, d2, s1, s2, q _ G H (Same.refl _) S (.old .bl)⟩
/-- in a list of data -/
def gIn : T → T → Option T
  | t, .lst ts => if okT t && okT (.lst ts) then some (.bl (ts.any fun z => eqT z t)) else none
  | _, _ => none
def gNotIn : T → T → Option T
  | t, .lst ts => if okT t && okT (.lst ts) then some (.bl (!ts.any fun z => eqT z t)) else none
  | _, _ => none
theorem toDs_any (d : PyData) : ∀ ts : List T, (toDs ts).any (fun z => PyData.eqv z d) = ts.any fun z => PyData.eqv (toD z) d
  | [] => rfl
  | t :: ts => by
    show (PyData.eqv (toD t) d || (toDs ts).any _) = _
    rw [toDs_any d ts, List.any_cons]
theorem o2_in : Op2 K (rInD K) false gIn := by
  intro N G κ σ H γ B B' tx ty tz x y S rx ry e Q q
  unfold gIn at e
  split at e
  · split at e <;> cases e
    rename_i ts h
    rw [Bool.and_eq_true] at h
    obtain ⟨d1, s1⟩ := rx.dp S h.1
    obtain ⟨d2, s2⟩ := ry.dp S h.2
    refine ⟨_, toDs ts, d1, d2, s1, s2, ?_⟩
    rw [toDs_any]
    exact q _ G H (Same.refl _) S (.old .bl)
  · cases e
theorem o2_notIn : Op2 K (rNotInD K) false gNotIn := by
  intro N G κ σ H γ B B' tx ty tz x y S rx ry e Q q
  unfold gNotIn at e
  split at e
  · split at e <;> cases e
    rename_i ts h
    rw [Bool.and_eq_true] at h
    obtain ⟨d1, s1⟩ := rx.dp S h.1
    obtain ⟨d2, s2⟩ := ry.dp S h.2
    refine ⟨_, toDs ts, d1, d2, s1, s2, ?_⟩
    rw [toDs_any]
    exact q _ G H (Same.refl _) S (.old .bl)
  · cases e

/-! ### the rules of expressions -/
variable {κ : List Bool} {e a b c : Expr} {es : List Expr} {pos p : Pos} {m : Bool} {B B1 B2 M M1 M2 M3 : List Nat} {f f1 f2 f3 : Ex} {x : Str}
theorem Sta.self {N : Nt} {G H : Hp} {κ : List Bool} {σ : L2.St} {γ : En} (S : Sta K N G κ σ H γ) : Same G G ∧ Sta K N G κ σ H γ := ⟨Same.refl _, S⟩
theorem eVar_some {i : Nat} {γ γ' : En} {r : T} (h : eVar i γ = some (r, γ')) : γ[i]? = some (some r) ∧ γ' = γ := by
  unfold eVar at h
  split at h
  · rename_i t ht
    cases h
    exact ⟨ht, rfl⟩
  · cases h
theorem sx_var (i : Nat) (hk : κ[i]? = some false := by rfl) (hN : X.N[i]? = some x := by rfl) (hv : Vis X.env.scope x := by first | exact Or.inl rfl | exact Or.inr (Or.inl rfl) | exact Or.inr (Or.inr rfl))
    (hd : (x == ("__debug__" : Str)) = false := by decide) (hcd : (x == ("__classdict__" : Str)) = false := by decide) : SX X (.Name x pos) false [] [] κ (eVar i) :=
  PE.weak (pe_var hN hv hd hcd) fun σ H Q ⟨N, G, γ, r, γ', S, e, q⟩ => by
    obtain ⟨h1, rfl⟩ := eVar_some e
    obtain ⟨v, h2, h3⟩ := S.shr i r hk h1
    exact ⟨v, h2, q v G H (Same.refl _) S (.refl _ _) (.old h3)⟩
theorem sx_own (i : Nat) (hk : κ[i]? = some true := by rfl) (hN : X.N[i]? = some x := by rfl) (hv : Vis X.env.scope x := by first | exact Or.inl rfl | exact Or.inr (Or.inl rfl) | exact Or.inr (Or.inr rfl))
    (hd : (x == ("__debug__" : Str)) = false := by decide) (hcd : (x == ("__classdict__" : Str)) = false := by decide) : SX X (.Name x pos) false [i] [] κ (eVar i) :=
  PE.weak (pe_var hN hv hd hcd) fun σ H Q ⟨N, G, γ, r, γ', S, e, q⟩ => by
    obtain ⟨h1, rfl⟩ := eVar_some e
    obtain ⟨a, o, h2, _⟩ := S.own i r hk h1
    refine ⟨_, h2, q _ G H (Same.refl _) S (.refl _ _) ?_⟩
    unfold Rsl
    rw [if_neg (by decide)]
    exact .inr ⟨i, by simp, hk, h1, h2⟩
theorem lit_of {K : PySem.W.Frag} {t : T} {v : V} (hr : ∀ G, Rep K G t v) : ∀ σ H Q, cE K false [] [] κ (eLit t) σ H Q → tC v σ H Q := fun σ H Q ⟨N, G, γ, r, γ', S, e, q⟩ => by
  cases e
  exact q v G H (Same.refl _) S (.refl _ _) (.old (hr G))
theorem sx_int {i j} : SX X (.Constant (.int i) j pos) false [] [] κ (eLit (.int i)) := PE.weak pe_int (lit_of fun G => Rep.int)
theorem sx_bl {i j} : SX X (.Constant (.bool i) j pos) false [] [] κ (eLit (.bl i)) := PE.weak pe_bl (lit_of fun G => Rep.bl)
theorem sx_non {j} : SX X (.Constant .none j pos) false [] [] κ (eLit .non) := PE.weak pe_non (lit_of fun G => Rep.non)
theorem sx_str {i j} : SX X (.Constant (.str i) j pos) false [] [] κ (eLit (.str i)) := PE.weak pe_str (lit_of fun G => Rep.str)
/-- a module's value that lasts -/
theorem sx_glob {t : T} {v : V} {u : Value} (hg : Gl X x) (hm : X.mg x = some u) (r : RelV v u) (hr : ∀ G, Rep X.K G t v) (hd : (x == ("__debug__" : Str)) = false := by decide) : SX X (.Name x pos) false [] [] κ (eLit t) :=
  PE.weak (pe_glob hg hm r hd) (lit_of hr)
/-- a new one, seen as lasting -/
theorem sx_last (h : SX X e true B M κ f) : SX X e false [] M κ f := PE.weak h fun σ H Q ⟨N, G, γ, r, γ', S, ef, q⟩ =>
  ⟨N, G, γ, r, γ', S, ef, fun v G' H' s1 S1 kp rs => by
    obtain ⟨G2, s2, S2, rp⟩ := rs.fre.lasts S1
    exact q v G2 H' (s1.trans s2) S2 kp (.old rp)⟩
theorem sx_bin {op : Operator} {r : R2} {g : T → T → Option T} (ho : OpR X (binaryOp op) r) (hg : Op2 X.K r m g) (ha : SX X a false B1 M1 κ f1) (hb : SX X b false B2 M2 κ f2) (hd : ∀ i, i ∈ B1 → i ∉ M2 := by decide) :
    SX X (.BinOp a op b pos) m [] (M1 ++ M2) κ (eBin g f1 f2) := PE.weak (pe_op ho ha hb) fun σ H Q ⟨N, G, γ, r, γ', S, e, q⟩ => by
  unfold eBin at e
  obtain ⟨⟨t1, γ1⟩, e1, e⟩ := Option.bind_eq_some_iff.mp e
  obtain ⟨⟨t2, γ2⟩, e2, e⟩ := Option.bind_eq_some_iff.mp e
  obtain ⟨t3, e3, e⟩ := Option.map_eq_some_iff.mp e
  cases e
  refine ⟨N, G, γ, t1, γ1, S, e1, fun v1 G1 H1 s1 S1 k1 r1 => ⟨N, G1, γ1, t2, γ2, S1, e2, fun v2 G2 H2 s2 S2 k2 r2 => ?_⟩⟩
  have r1' : Rdy X.K κ G2 σ γ2 B1 t1 v1 := r1.rdy.mono s2 (fun i hi => k2 i (hd i hi)) (fun _ h => h)
  exact hg N G2 κ σ H2 γ2 B1 B2 t1 t2 _ v1 v2 S2 r1' r2.rdy e3 Q fun v G3 H3 s3 S3 rs => q v G3 H3 ((s1.trans s2).trans s3) S3 (k1.trans k2) rs
theorem sx_cmp {op : CmpOp} {r : R2} {g : T → T → Option T} (ho : OpR X (compareOp op) r) (hg : Op2 X.K r false g) (ha : SX X a false B1 M1 κ f1) (hb : SX X b false B2 M2 κ f2) (hm : behindInMarks op b = false := by rfl) (hd : ∀ i, i ∈ B1 → i ∉ M2 := by decide) :
    SX X (.Compare a [op] [b] pos) false [] (M1 ++ M2) κ (eBin g f1 f2) := PE.weak (pe_cmpR ho ha hb hm) fun σ H Q ⟨N, G, γ, r, γ', S, e, q⟩ => by
  unfold eBin at e
  obtain ⟨⟨t1, γ1⟩, e1, e⟩ := Option.bind_eq_some_iff.mp e
  obtain ⟨⟨t2, γ2⟩, e2, e⟩ := Option.bind_eq_some_iff.mp e
  obtain ⟨t3, e3, e⟩ := Option.map_eq_some_iff.mp e
  cases e
  refine ⟨N, G, γ, t1, γ1, S, e1, fun v1 G1 H1 s1 S1 k1 r1 => ⟨N, G1, γ1, t2, γ2, S1, e2, fun v2 G2 H2 s2 S2 k2 r2 => ?_⟩⟩
  have r1' : Rdy X.K κ G2 σ γ2 B1 t1 v1 := r1.rdy.mono s2 (fun i hi => k2 i (hd i hi)) (fun _ h => h)
  exact hg N G2 κ σ H2 γ2 B1 B2 t1 t2 _ v1 v2 S2 r1' r2.rdy e3 Q fun v G3 H3 s3 S3 rs => q v G3 H3 ((s1.trans s2).trans s3) S3 (k1.trans k2) rs
theorem tOf_some {f : Ex} {γ γ' : En} {k : Bool} (h : tOf f γ = some (k, γ')) : f γ = some (.bl k, γ') := by
  unfold tOf at h
  split at h
  · rename_i e
    cases h
    exact e
  · cases h
theorem st_cmp {op : CmpOp} {r : R2} {g : T → T → Option T} (ho : OpR X (compareOp op) r) (hg : Op2 X.K r false g) (ha : SX X a false B1 M1 κ f1) (hb : SX X b false B2 M2 κ f2) (hm : behindInMarks op b = false := by rfl) (hd : ∀ i, i ∈ B1 → i ∉ M2 := by decide) :
    ST X (.Compare a [op] [b] pos) (M1 ++ M2) κ (tOf (eBin g f1 f2)) := PT.weak (pt_cmpR ho ha hb hm) fun σ H Q ⟨N, G, γ, r, γ', S, e, q⟩ => by
  have e := tOf_some e
  unfold eBin at e
  obtain ⟨⟨t1, γ1⟩, e1, e⟩ := Option.bind_eq_some_iff.mp e
  obtain ⟨⟨t2, γ2⟩, e2, e⟩ := Option.bind_eq_some_iff.mp e
  obtain ⟨t3, e3, e⟩ := Option.map_eq_some_iff.mp e
  cases e
  refine ⟨N, G, γ, t1, γ1, S, e1, fun v1 G1 H1 s1 S1 k1 r1 => ⟨N, G1, γ1, t2, γ2, S1, e2, fun v2 G2 H2 s2 S2 k2 r2 => ?_⟩⟩
  have r1' : Rdy X.K κ G2 σ γ2 B1 t1 v1 := r1.rdy.mono s2 (fun i hi => k2 i (hd i hi)) (fun _ h => h)
  refine hg N G2 κ σ H2 γ2 B1 B2 t1 t2 _ v1 v2 S2 r1' r2.rdy e3 _ fun v G3 H3 s3 S3 rs => ?_
  exact ⟨_, rs.rdy.bl S3, q G3 H3 ((s1.trans s2).trans s3) S3 (k1.trans k2)⟩
theorem sx_un {op : UnaryOp} {r : V → Hp → VK → Prop} {g : T → Option T} (ho : UnR X (unaryOp op) r) (hg : Op1 X.K r m g) (ha : SX X a false B1 M1 κ f1) : SX X (.UnaryOp op a pos) m [] M1 κ (eUn g f1) :=
  PE.weak (pe_un ho ha) fun σ H Q ⟨N, G, γ, r, γ', S, e, q⟩ => by
  unfold eUn at e
  obtain ⟨⟨t1, γ1⟩, e1, e⟩ := Option.bind_eq_some_iff.mp e
  obtain ⟨t3, e3, e⟩ := Option.map_eq_some_iff.mp e
  cases e
  refine ⟨N, G, γ, t1, γ1, S, e1, fun v1 G1 H1 s1 S1 k1 r1 => ?_⟩
  exact hg N G1 κ σ H1 γ1 B1 t1 _ v1 S1 r1.rdy e3 Q fun v G3 H3 s3 S3 rs => q v G3 H3 (s1.trans s3) S3 k1 rs
theorem o1_neg : Op1 K (rU fun i => .int (-i)) false gNeg := by
  intro N G κ σ H γ B tx tz x S rx e Q q
  unfold gNeg at e
  split at e <;> cases e
  exact ⟨_, rx.int S, q _ G H (Same.refl _) S (.old .int)⟩
end
end Tw

namespace Tw
open PySem PySem.Spec PyProof.Rows L2

section
variable {X : Cx} {K : PySem.W.Frag} {N : Nt} {G G' H H' : Hp} {σ : L2.St} {γ γ' : En} {ts : List T} {vs : List V} {t : T} {v : V}
variable {κ : List Bool} {e a b c o : Expr} {es : List Expr} {pos p apos cpos : Pos} {m : Bool} {B B1 B2 M M1 M2 M3 : List Nat} {f f1 f2 f3 : Ex} {g1 g2 : Ax} {c1 c2 : Tx} {x name : Str} {id T' : String}
theorem Rdys.mono (r : Rdys K κ G σ γ B ts vs) (h : Same G G') (hM : ∀ i : Nat, i ∈ B → γ'[i]? = γ[i]?) (hB : ∀ i : Nat, i ∈ B → i ∈ B2) : Rdys K κ G' σ γ' B2 ts vs := by
  induction r with
  | nil => exact .nil
  | cons r _ ih => exact .cons (r.mono h hM hB) ih
theorem Rdys.one (r : Rdys K κ G σ γ B [t] vs) : ∃ v, vs = [v] ∧ Rdy K κ G σ γ B t v := by
  cases r with
  | cons a b => cases b; exact ⟨_, rfl, a⟩
theorem Rdys.two {u : T} (r : Rdys K κ G σ γ B [t, u] vs) : ∃ v w, vs = [v, w] ∧ Rdy K κ G σ γ B t v ∧ Rdy K κ G σ γ B u w := by
  cases r with
  | cons a b => cases b with
    | cons a2 b2 => cases b2; exact ⟨_, _, rfl, a, a2⟩
theorem Rdys.reps : ∀ {ts : List T} {vs : List V}, Rdys K κ G σ γ [] ts vs → Reps K G ts vs
  | _, _, .nil => .nil
  | _, _, .cons a b => .cons a.rep (Rdys.reps b)
theorem sa_nil : SA X [] [] [] κ aNil := PA.weak pa_nil fun σ H Q ⟨N, G, γ, r, γ', S, ef, q⟩ => by
  cases ef
  exact q [] G H (Same.refl _) S (.refl _ _) .nil
theorem sa_cons (ha : SX X e false B1 M1 κ f) (hr : SA X es B2 M2 κ g1) (hd : ∀ i, i ∈ B1 → i ∉ M2 := by decide) (hs : starEach (e :: es) X.env = (false, eval e X.env) :: starEach es X.env := by rfl) :
    SA X (e :: es) (B1 ++ B2) (M1 ++ M2) κ (aCons f g1) := PA.weak (pa_cons ha hr hs) fun σ H Q ⟨N, G, γ, r, γ', S, ef, q⟩ => by
  unfold aCons at ef
  obtain ⟨⟨t1, γ1⟩, e1, ef⟩ := Option.bind_eq_some_iff.mp ef
  obtain ⟨⟨t2, γ2⟩, e2, ef⟩ := Option.map_eq_some_iff.mp ef
  cases ef
  refine ⟨N, G, γ, t1, γ1, S, e1, fun v1 G1 H1 s1 S1 k1 r1 => ⟨N, G1, γ1, t2, γ2, S1, e2, fun vs G2 H2 s2 S2 k2 r2 => ?_⟩⟩
  refine q (v1 :: vs) G2 H2 (s1.trans s2) S2 (k1.trans k2) (.cons ?_ (r2.mono (Same.refl _) (fun _ _ => rfl) fun _ h => List.mem_append_right _ h))
  exact r1.rdy.mono s2 (fun i hi => k2 i (hd i hi)) (fun _ h => List.mem_append_left _ h)

/-! ### calls of built-ins -/
theorem call_of {r : List V → Hp → VK → Prop} {g : List T → Option T} (hg : FnT K r m g) : ∀ σ H Q, cE K m [] M κ (eCall g g1) σ H Q → tCB r (cA K B M κ g1) σ H Q := fun σ H Q ⟨N, G, γ, r, γ', S, ef, q⟩ => by
  unfold eCall at ef
  obtain ⟨⟨t1, γ1⟩, e1, ef⟩ := Option.bind_eq_some_iff.mp ef
  obtain ⟨t3, e3, ef⟩ := Option.map_eq_some_iff.mp ef
  cases ef
  refine ⟨N, G, γ, t1, γ1, S, e1, fun vs G1 H1 s1 S1 k1 r1 => ?_⟩
  exact hg N G1 κ σ H1 γ1 B t1 _ vs S1 r1 e3 Q fun v G3 H3 s3 S3 rs => q v G3 H3 (s1.trans s3) S3 k1 rs
theorem sx_callB {r : List V → Hp → VK → Prop} {g : List T → Option T} (hc : CallR X (.builtin id) r) (hg : FnT X.K r m g) (hgl : Gl X x) (hm : X.mg x = none) (hv : bootBuiltins x = some (.builtin id)) (ha : SA X (e :: es) B M κ g1)
    (hn : x ≠ "__name__" := by decide) (hdb : (x == ("__debug__" : Str)) = false := by decide) (he : starEach (e :: es) X.env = (false, eval e X.env) :: starEach es X.env := by rfl) (hpl : (backTo pos (starEach es X.env)).any (·.1) = false := by rfl) :
    SX X (.Call (.Name x p) (e :: es) [] pos) m [] M κ (eCall g g1) := PE.weak (pe_callB hc hgl hm hv ha hn hdb he hpl) (call_of hg)
theorem sx_callTy {r : List V → Hp → VK → Prop} {g : List T → Option T} (hc : CallR X (.type id) r) (hg : FnT X.K r m g) (hgl : Gl X x) (hm : X.mg x = none) (hv : bootBuiltins x = some (.type id)) (ha : SA X (e :: es) B M κ g1)
    (hn : x ≠ "__name__" := by decide) (hdb : (x == ("__debug__" : Str)) = false := by decide) (he : starEach (e :: es) X.env = (false, eval e X.env) :: starEach es X.env := by rfl) (hpl : (backTo pos (starEach es X.env)).any (·.1) = false := by rfl) :
    SX X (.Call (.Name x p) (e :: es) [] pos) m [] M κ (eCall g g1) := PE.weak (pe_callTy hc hgl hm hv ha hn hdb he hpl) (call_of hg)

/-! ### truth, and, or, not, if -/
theorem Rdy.tru {k : Bool} (r : Rdy K κ G σ γ B t v) (S : Sta K N G κ σ H γ) (e : truT t = some k) : TruV K v H k := by
  cases t with
  | non => have := r.non S; subst this; cases e; rfl
  | bl _ => have := r.bl S; subst this; cases e; rfl
  | int _ => have := r.int S; subst this; cases e; rfl
  | str y =>
    have := r.str S
    subst this
    have e2 : (if y.length ≤ sizeLine then some ((y.length : Int) != 0) else none) = some k := e
    split at e2 <;> cases e2
    exact ⟨by assumption, rfl⟩
  | lst ts =>
    obtain ⟨a, vs, rfl, h1, r1⟩ := r.list S
    cases e
    refine .inl ⟨vs, .inl (.inl h1), ?_⟩
    have := r1.length
    cases ts <;> cases vs <;> simp at this ⊢
  | old ts =>
    obtain ⟨a, vs, rfl, h1, r1⟩ := r.older S
    cases e
    refine .inl ⟨vs, h1, ?_⟩
    have := r1.length
    cases ts <;> cases vs <;> simp at this ⊢
  | tup ts =>
    obtain ⟨a, vs, rfl, h1, r1⟩ := r.tuple S
    cases e
    refine .inr (.inl ⟨vs, h1, ?_⟩)
    have := r1.length
    cases ts <;> cases vs <;> simp at this ⊢
  | dct _ _ => cases e
theorem st_tru (h : SX X e false B M κ f) (he : ∀ whole, isTrue e X.env whole = (do let v ← whole; standAt e.pos; holding [v] (truthy v)) := by intro _; rfl) : ST X e M κ (tTru f) :=
  PT.weak (pt_truth h he) fun σ H Q ⟨N, G, γ, r, γ', S, ef, q⟩ => by
  unfold tTru at ef
  obtain ⟨⟨t1, γ1⟩, e1, ef⟩ := Option.bind_eq_some_iff.mp ef
  obtain ⟨k, e3, ef⟩ := Option.map_eq_some_iff.mp ef
  cases ef
  exact ⟨N, G, γ, t1, γ1, S, e1, fun v G1 H1 s1 S1 k1 r1 => ⟨_, r1.rdy.tru S1 e3, q G1 H1 s1 S1 k1⟩⟩
theorem st_not (h : ST X a M κ c1) : ST X (.UnaryOp .Not a pos) M κ (tNotT c1) := PT.weak (pt_not h) fun σ H Q ⟨N, G, γ, r, γ', S, ef, q⟩ => by
  unfold tNotT at ef
  obtain ⟨⟨k, γ1⟩, e1, ef⟩ := Option.map_eq_some_iff.mp ef
  cases ef
  exact ⟨N, G, γ, k, γ1, S, e1, fun G1 H1 s1 S1 k1 => q G1 H1 s1 S1 k1⟩
theorem sw_and1 (h : ST X a M κ c1) : SW X (.BoolOp .And [a] pos) M κ c1 := PW.weak (pw_and1 h) fun σ H Q q => q
theorem sw_or1 (h : ST X a M κ c1) : SW X (.BoolOp .Or [a] pos) M κ c1 := PW.weak (pw_or1 h) fun σ H Q q => q
theorem Keeps.wide {M M' : List Nat} {γ γ' : En} (h : Keeps M γ γ') (hs : ∀ i : Nat, i ∈ M → i ∈ M') : Keeps M' γ γ' := fun i hi => h i fun z => hi (hs i z)
theorem sw_and {rest : List Expr} (h : ST X a M1 κ c1) (h2 : SW X (.BoolOp .And (b :: rest) pos) M2 κ c2) : SW X (.BoolOp .And (a :: b :: rest) pos) (M1 ++ M2) κ (tAndT c1 c2) :=
  PW.weak (pw_and h h2) fun σ H Q ⟨N, G, γ, r, γ', S, ef, q⟩ => by
  unfold tAndT at ef
  obtain ⟨⟨k, γ1⟩, e1, ef⟩ := Option.bind_eq_some_iff.mp ef
  refine ⟨N, G, γ, k, γ1, S, e1, fun G1 H1 s1 S1 k1 => ?_⟩
  cases k with
  | true =>
    rw [if_pos rfl] at ef ⊢
    exact ⟨N, G1, γ1, r, γ', S1, ef, fun G2 H2 s2 S2 k2 => q G2 H2 (s1.trans s2) S2 (k1.trans k2)⟩
  | false =>
    dsimp only at ef
    rw [if_neg Bool.false_ne_true] at ef ⊢
    cases ef
    exact q G1 H1 s1 S1 (k1.wide fun _ h => List.mem_append_left _ h)
theorem sw_or {rest : List Expr} (h : ST X a M1 κ c1) (h2 : SW X (.BoolOp .Or (b :: rest) pos) M2 κ c2) : SW X (.BoolOp .Or (a :: b :: rest) pos) (M1 ++ M2) κ (tOrT c1 c2) :=
  PW.weak (pw_or h h2) fun σ H Q ⟨N, G, γ, r, γ', S, ef, q⟩ => by
  unfold tOrT at ef
  obtain ⟨⟨k, γ1⟩, e1, ef⟩ := Option.bind_eq_some_iff.mp ef
  refine ⟨N, G, γ, k, γ1, S, e1, fun G1 H1 s1 S1 k1 => ?_⟩
  cases k with
  | false =>
    dsimp only at ef
    rw [if_neg Bool.false_ne_true] at ef ⊢
    exact ⟨N, G1, γ1, r, γ', S1, ef, fun G2 H2 s2 S2 k2 => q G2 H2 (s1.trans s2) S2 (k1.trans k2)⟩
  | true =>
    rw [if_pos rfl] at ef ⊢
    cases ef
    exact q G1 H1 s1 S1 (k1.wide fun _ h => List.mem_append_left _ h)
/-- and, or, not as values: what comes before the last one is a bool -/
theorem sx_one {op : BoolOp} (h : SX X a m B M κ f) : SX X (.BoolOp op [a] pos) m B M κ f := PE.weak (pe_one h) fun σ H Q q => q
theorem sx_and {rest : List Expr} (h : SX X a false B1 M1 κ f1) (h2 : SX X (.BoolOp .And (b :: rest) pos) false B2 M2 κ f2) : SX X (.BoolOp .And (a :: b :: rest) pos) false B2 (M1 ++ M2) κ (eAnd f1 f2) :=
  PE.weak (pe_and h h2) fun σ H Q ⟨N, G, γ, r, γ', S, ef, q⟩ => by
  unfold eAnd at ef
  split at ef
  · rename_i γ1 e1
    refine ⟨N, G, γ, _, γ1, S, e1, fun v1 G1 H1 s1 S1 k1 r1 => ⟨true, r1.rdy.bl S1, ?_⟩⟩
    rw [if_pos rfl]
    exact ⟨N, G1, γ1, r, γ', S1, ef, fun v2 G2 H2 s2 S2 k2 r2 => q v2 G2 H2 (s1.trans s2) S2 (k1.trans k2) r2⟩
  · rename_i γ1 e1
    cases ef
    refine ⟨N, G, γ, _, _, S, e1, fun v1 G1 H1 s1 S1 k1 r1 => ⟨false, r1.rdy.bl S1, ?_⟩⟩
    rw [if_neg (by decide)]
    exact q _ G1 H1 s1 S1 (k1.wide fun _ h => List.mem_append_left _ h) (.old .bl)
  · cases ef
theorem sx_or {rest : List Expr} (h : SX X a false B1 M1 κ f1) (h2 : SX X (.BoolOp .Or (b :: rest) pos) false B2 M2 κ f2) : SX X (.BoolOp .Or (a :: b :: rest) pos) false B2 (M1 ++ M2) κ (eOr f1 f2) :=
  PE.weak (pe_or h h2) fun σ H Q ⟨N, G, γ, r, γ', S, ef, q⟩ => by
  unfold eOr at ef
  split at ef
  · rename_i γ1 e1
    refine ⟨N, G, γ, _, γ1, S, e1, fun v1 G1 H1 s1 S1 k1 r1 => ⟨false, r1.rdy.bl S1, ?_⟩⟩
    rw [if_neg (by decide)]
    exact ⟨N, G1, γ1, r, γ', S1, ef, fun v2 G2 H2 s2 S2 k2 r2 => q v2 G2 H2 (s1.trans s2) S2 (k1.trans k2) r2⟩
  · rename_i γ1 e1
    cases ef
    refine ⟨N, G, γ, _, _, S, e1, fun v1 G1 H1 s1 S1 k1 r1 => ⟨true, r1.rdy.bl S1, ?_⟩⟩
    rw [if_pos rfl]
    exact q _ G1 H1 s1 S1 (k1.wide fun _ h => List.mem_append_left _ h) (.old .bl)
  · cases ef
theorem sx_not (h : SX X a false B1 M1 κ f1) : SX X (.UnaryOp .Not a pos) false [] M1 κ (eNot f1) :=
  PE.weak (pe_not h) fun σ H Q ⟨N, G, γ, r, γ', S, ef, q⟩ => by
  unfold eNot at ef
  split at ef
  · rename_i k γ1 e1
    cases ef
    exact ⟨N, G, γ, _, _, S, e1, fun v1 G1 H1 s1 S1 k1 r1 => ⟨k, r1.rdy.bl S1, q _ G1 H1 s1 S1 k1 (.old .bl)⟩⟩
  · cases ef
/-- not as a value, by truth of anything -/
theorem sx_notT (h : ST X a M κ c1) : ST X a M κ c1 := h
theorem sx_if (h : ST X c M1 κ c1) (ha : SX X a m B1 M2 κ f1) (hb : SX X b m B2 M3 κ f2) : SX X (.IfExp c a b pos) m (B1 ++ B2) (M1 ++ (M2 ++ M3)) κ (eIf c1 f1 f2) :=
  PE.weak (pe_ifExp h ha hb) fun σ H Q ⟨N, G, γ, r, γ', S, ef, q⟩ => by
  unfold eIf at ef
  obtain ⟨⟨k, γ1⟩, e1, ef⟩ := Option.bind_eq_some_iff.mp ef
  refine ⟨N, G, γ, k, γ1, S, e1, fun G1 H1 s1 S1 k1 => ?_⟩
  cases k with
  | true =>
    rw [if_pos rfl] at ef ⊢
    refine ⟨N, G1, γ1, r, γ', S1, ef, fun v2 G2 H2 s2 S2 k2 r2 => q v2 G2 H2 (s1.trans s2) S2 (k1.trans (k2.wide fun _ h => List.mem_append_left _ h)) ?_⟩
    cases m with
    | true => exact .new r2.fre
    | false => unfold Rsl; rw [if_neg (by decide)]; exact r2.rdy.mono (Same.refl _) (fun _ _ => rfl) fun _ h => List.mem_append_left _ h
  | false =>
    dsimp only at ef
    rw [if_neg Bool.false_ne_true] at ef ⊢
    refine ⟨N, G1, γ1, r, γ', S1, ef, fun v2 G2 H2 s2 S2 k2 r2 => q v2 G2 H2 (s1.trans s2) S2 (k1.trans (k2.wide fun _ h => List.mem_append_right _ h)) ?_⟩
    cases m with
    | true => exact .new r2.fre
    | false => unfold Rsl; rw [if_neg (by decide)]; exact r2.rdy.mono (Same.refl _) (fun _ _ => rfl) fun _ h => List.mem_append_right _ h
theorem sx_chain {op op' : CmpOp} {r r' : R2} {g g' : T → T → Option T} (ho : OpR X (compareOp op) r) (ho' : OpR X (compareOp op') r') (hg : Op2 X.K r false g) (hg' : Op2 X.K r' false g') (ha : SX X a false B1 M1 κ f1) (hb : SX X b false B2 M2 κ f2) (hc : SX X c false B M3 κ f3)
    (hd : ∀ i, i ∈ B1 → i ∉ M2 := by decide) (hd2 : ∀ i, i ∈ B2 → i ∉ M3 := by decide) (hlm : lastMarks [op, op'] [b, c] = false := by with_unfolding_all rfl) : SX X (.Compare a [op, op'] [b, c] pos) false [] (M1 ++ (M2 ++ M3)) κ (eChain g g' f1 f2 f3) := by
  refine PE.weak (pe_chain ho ho' ha hb hc (hm := hlm)) fun σ H Q ⟨N, G, γ, r, γ', S, ef, q⟩ => ?_
  unfold eChain at ef
  obtain ⟨⟨t1, γ1⟩, e1, ef⟩ := Option.bind_eq_some_iff.mp ef
  obtain ⟨⟨t2, γ2⟩, e2, ef⟩ := Option.bind_eq_some_iff.mp ef
  refine ⟨N, G, γ, t1, γ1, S, e1, fun v1 G1 H1 s1 S1 k1 r1 => ⟨N, G1, γ1, t2, γ2, S1, e2, fun v2 G2 H2 s2 S2 k2 r2 => ?_⟩⟩
  have r1' : Rdy X.K κ G2 σ γ2 B1 t1 v1 := r1.rdy.mono s2 (fun i hi => k2 i (hd i hi)) (fun _ h => h)
  dsimp only at ef
  split at ef
  · rename_i e3
    obtain ⟨⟨t3, γ3⟩, e4, ef⟩ := Option.bind_eq_some_iff.mp ef
    obtain ⟨t4, e5, ef⟩ := Option.map_eq_some_iff.mp ef
    cases ef
    refine hg N G2 κ σ H2 γ2 B1 B2 t1 t2 _ v1 v2 S2 r1' r2.rdy e3 _ fun v G3 H3 s3 S3 rs => ⟨true, rs.rdy.bl S3, ?_⟩
    rw [if_pos rfl]
    refine ⟨N, G3, γ2, t3, γ3, S3, e4, fun v4 G4 H4 s4 S4 k4 r4 => ?_⟩
    have r2' : Rdy X.K κ G4 σ γ3 B2 t2 v2 := r2.rdy.mono (s3.trans s4) (fun i hi => k4 i (hd2 i hi)) (fun _ h => h)
    exact hg' N G4 κ σ H4 γ3 B2 B t2 t3 _ v2 v4 S4 r2' r4.rdy e5 Q fun v G5 H5 s5 S5 rs => q v G5 H5 ((((s1.trans s2).trans s3).trans s4).trans s5) S5 (k1.trans (k2.trans k4)) rs
  · rename_i e3
    cases ef
    refine hg N G2 κ σ H2 _ B1 B2 t1 t2 _ v1 v2 S2 r1' r2.rdy e3 _ fun v G3 H3 s3 S3 rs => ⟨false, rs.rdy.bl S3, ?_⟩
    rw [if_neg (by decide)]
    exact q _ G3 H3 ((s1.trans s2).trans s3) S3 (k1.trans (k2.wide fun _ h => List.mem_append_left _ h)) (.old .bl)
  · cases ef
theorem st_chain {op op' : CmpOp} {r r' : R2} {g g' : T → T → Option T} (ho : OpR X (compareOp op) r) (ho' : OpR X (compareOp op') r') (hg : Op2 X.K r false g) (hg' : Op2 X.K r' false g') (ha : SX X a false B1 M1 κ f1) (hb : SX X b false B2 M2 κ f2) (hc : SX X c false B M3 κ f3)
    (hd : ∀ i, i ∈ B1 → i ∉ M2 := by decide) (hd2 : ∀ i, i ∈ B2 → i ∉ M3 := by decide) (hlm : lastMarks [op, op'] [b, c] = false := by with_unfolding_all rfl) : ST X (.Compare a [op, op'] [b, c] pos) (M1 ++ (M2 ++ M3)) κ (tOf (eChain g g' f1 f2 f3)) := by
  refine PT.weak (pt_chain ho ho' ha hb hc (hm := hlm)) fun σ H Q ⟨N, G, γ, r, γ', S, ef, q⟩ => ?_
  have ef := tOf_some ef
  unfold eChain at ef
  obtain ⟨⟨t1, γ1⟩, e1, ef⟩ := Option.bind_eq_some_iff.mp ef
  obtain ⟨⟨t2, γ2⟩, e2, ef⟩ := Option.bind_eq_some_iff.mp ef
  refine ⟨N, G, γ, t1, γ1, S, e1, fun v1 G1 H1 s1 S1 k1 r1 => ⟨N, G1, γ1, t2, γ2, S1, e2, fun v2 G2 H2 s2 S2 k2 r2 => ?_⟩⟩
  have r1' : Rdy X.K κ G2 σ γ2 B1 t1 v1 := r1.rdy.mono s2 (fun i hi => k2 i (hd i hi)) (fun _ h => h)
  dsimp only at ef
  split at ef
  · rename_i e3
    obtain ⟨⟨t3, γ3⟩, e4, ef⟩ := Option.bind_eq_some_iff.mp ef
    obtain ⟨t4, e5, ef⟩ := Option.map_eq_some_iff.mp ef
    cases ef
    refine hg N G2 κ σ H2 γ2 B1 B2 t1 t2 _ v1 v2 S2 r1' r2.rdy e3 _ fun v G3 H3 s3 S3 rs => ⟨true, rs.rdy.bl S3, ?_⟩
    rw [if_pos rfl]
    refine ⟨N, G3, γ2, t3, γ3, S3, e4, fun v4 G4 H4 s4 S4 k4 r4 => ?_⟩
    have r2' : Rdy X.K κ G4 σ γ3 B2 t2 v2 := r2.rdy.mono (s3.trans s4) (fun i hi => k4 i (hd2 i hi)) (fun _ h => h)
    refine hg' N G4 κ σ H4 γ3 B2 B t2 t3 _ v2 v4 S4 r2' r4.rdy e5 _ fun v G5 H5 s5 S5 rs => ⟨_, rs.rdy.bl S5, ?_⟩
    exact q G5 H5 ((((s1.trans s2).trans s3).trans s4).trans s5) S5 (k1.trans (k2.trans k4))
  · rename_i e3
    cases ef
    refine hg N G2 κ σ H2 _ B1 B2 t1 t2 _ v1 v2 S2 r1' r2.rdy e3 _ fun v G3 H3 s3 S3 rs => ⟨false, rs.rdy.bl S3, ?_⟩
    rw [if_neg (by decide)]
    exact ⟨false, rfl, q G3 H3 ((s1.trans s2).trans s3) S3 (k1.trans (k2.wide fun _ h => List.mem_append_left _ h))⟩
  · cases ef

/-! ### displays, subscripts -/
def eTup (a : Ax) : Ex := fun γ => (a γ).bind fun p => if p.1.length ≤ sizeLine then some (.tup p.1, p.2) else none
def eLst (a : Ax) : Ex := fun γ => (a γ).bind fun p => if p.1.length ≤ sizeLine then some (.lst p.1, p.2) else none
theorem sx_tup {x1} (h : SA X es [] M κ g1) : SX X (.Tuple es x1 pos) false [] M κ (eTup g1) := PE.weak (pe_tup h) fun σ H Q ⟨N, G, γ, r, γ', S, ef, q⟩ => by
  unfold eTup at ef
  obtain ⟨⟨t1, γ1⟩, e1, ef⟩ := Option.bind_eq_some_iff.mp ef
  split at ef <;> cases ef
  rename_i hz
  refine ⟨N, G, γ, t1, _, S, e1, fun vs G1 H1 s1 S1 k1 r1 => ⟨by rw [r1.reps.length]; exact hz, fun p hp => ?_⟩⟩
  obtain ⟨G2, s2, S2, r2⟩ := S1.tupled hp r1.reps
  exact q _ G2 _ (s1.trans s2) S2 k1 (.old r2)
theorem sx_lst (h : SA X es [] M κ g1) : SX X (.List es pos) true [] M κ (eLst g1) := PE.weak (pe_lst h) fun σ H Q ⟨N, G, γ, r, γ', S, ef, q⟩ => by
  unfold eLst at ef
  obtain ⟨⟨t1, γ1⟩, e1, ef⟩ := Option.bind_eq_some_iff.mp ef
  split at ef <;> cases ef
  rename_i hz
  refine ⟨N, G, γ, t1, _, S, e1, fun vs G1 H1 s1 S1 k1 r1 => ⟨by rw [r1.reps.length]; exact hz, fun p hp => ?_⟩⟩
  obtain ⟨S2, r2⟩ := S1.listed hp r1.reps
  exact q _ G1 _ s1 S2 k1 (.new r2)
/-- an item at an index of either sign -/
def gIx : T → T → Option T
  | .lst ts, .int i => atI ts i
  | .old ts, .int i => atI ts i
  | .tup ts, .int i => atI ts i
  | .str z, .int i => if z.length ≤ sizeLine then (atI z.cps.toList i).map fun c => .str ⟨#[c]⟩ else none
  | _, _ => none
theorem atI_reps {i : Int} (r : Reps K G ts vs) (e : atI ts i = some t) : ∃ v, atI vs i = some v ∧ Rep K G t v := by
  unfold atI at e ⊢
  rw [r.length]
  cases h : ixN ts.length i with
  | none => rw [h] at e; cases e
  | some j =>
    rw [h] at e
    obtain ⟨v, h1, h2⟩ := r.get (i := j) (by simpa using e)
    exact ⟨v, by simpa using h1, h2⟩
theorem o2_ix : Op2 K (rIx K) false gIx := by
  intro N G κ σ H γ B B' tx ty tz x y S rx ry e Q q
  unfold gIx at e
  split at e
  · obtain ⟨a, vs, rfl, h1, r1⟩ := rx.list S
    obtain ⟨v, h2, r2⟩ := atI_reps r1 e
    exact .inl ⟨a, vs, _, v, rfl, ry.int S, .inl (.inl h1), h2, q _ G H (Same.refl _) S (.old r2)⟩
  · obtain ⟨a, vs, rfl, h1, r1⟩ := rx.older S
    obtain ⟨v, h2, r2⟩ := atI_reps r1 e
    exact .inl ⟨a, vs, _, v, rfl, ry.int S, h1, h2, q _ G H (Same.refl _) S (.old r2)⟩
  · obtain ⟨a, vs, rfl, h1, r1⟩ := rx.tuple S
    obtain ⟨v, h2, r2⟩ := atI_reps r1 e
    exact .inr (.inl ⟨a, vs, _, v, rfl, ry.int S, h1, h2, q _ G H (Same.refl _) S (.old r2)⟩)
  · split at e
    · obtain ⟨c, h1, rfl⟩ := Option.map_eq_some_iff.mp e
      exact .inr (.inr ⟨_, _, c, rx.str S, ry.int S, by assumption, h1, q _ G H (Same.refl _) S (.old .str)⟩)
    · cases e
  · cases e
theorem sx_ix {r : R2} {g : T → T → Option T} (ho : IxR X r) (hg : Op2 X.K r m g) (ha : SX X a false B1 M1 κ f1) (hb : SX X b false B2 M2 κ f2) (hs : PlainIx b := by exact fun _ _ => rfl) (hd : ∀ i, i ∈ B1 → i ∉ M2 := by decide) :
    SX X (.Subscript a b pos) m [] (M1 ++ M2) κ (eBin g f1 f2) := PE.weak (pe_ix ho ha hb hs) fun σ H Q ⟨N, G, γ, r, γ', S, e, q⟩ => by
  unfold eBin at e
  obtain ⟨⟨t1, γ1⟩, e1, e⟩ := Option.bind_eq_some_iff.mp e
  obtain ⟨⟨t2, γ2⟩, e2, e⟩ := Option.bind_eq_some_iff.mp e
  obtain ⟨t3, e3, e⟩ := Option.map_eq_some_iff.mp e
  cases e
  refine ⟨N, G, γ, t1, γ1, S, e1, fun v1 G1 H1 s1 S1 k1 r1 => ⟨N, G1, γ1, t2, γ2, S1, e2, fun v2 G2 H2 s2 S2 k2 r2 => ?_⟩⟩
  have r1' : Rdy X.K κ G2 σ γ2 B1 t1 v1 := r1.rdy.mono s2 (fun i hi => k2 i (hd i hi)) (fun _ h => h)
  exact hg N G2 κ σ H2 γ2 B1 B2 t1 t2 _ v1 v2 S2 r1' r2.rdy e3 Q fun v G3 H3 s3 S3 rs => q v G3 H3 ((s1.trans s2).trans s3) S3 (k1.trans k2) rs
/-- a slice -/
abbrev Ox := En → Option (Option Int × En)
def oNone : Ox := fun γ => some (none, γ)
def oSome (f : Ex) : Ox := fun γ => match f γ with
  | some (.int i, γ') => some (some i, γ')
  | _ => none
def cO (K : PySem.W.Frag) (M : List Nat) (κ : List Bool) (f : Ox) : TO := fun σ H Q => ∃ N G γ r γ', Sta K N G κ σ H γ ∧ f γ = some (r, γ') ∧ ∀ G' H', Same G G' → Sta K N G' κ σ H' γ' → Keeps M γ γ' → Q r H'
abbrev SO (X : Cx) (e : Option Expr) (M : List Nat) (κ : List Bool) (f : Ox) : Prop := PO X e (cO X.K M κ f)
theorem PO.weak {X : Cx} {e : Option Expr} {t t' : TO} (h : PO X e t) (w : ∀ σ H Q, t' σ H Q → t σ H Q) : PO X e t' := ⟨fun pins s σ H Q I q => h.run pins s σ H Q I (w σ H Q q)⟩
theorem so_none : SO X none [] κ oNone := PO.weak po_none fun σ H Q ⟨N, G, γ, r, γ', S, e, q⟩ => by
  cases e
  exact q G H (Same.refl _) S (.refl _ _)
theorem so_some (h : SX X e false B M κ f) : SO X (some e) M κ (oSome f) := PO.weak (po_some h) fun σ H Q ⟨N, G, γ, r, γ', S, e, q⟩ => by
  unfold oSome at e
  split at e
  · rename_i i γ1 e1
    cases e
    exact ⟨N, G, γ, _, _, S, e1, fun v G1 H1 s1 S1 k1 r1 => ⟨i, r1.rdy.int S1, q G1 H1 s1 S1 k1⟩⟩
  · cases e
/-- what a slice takes -/
def cutT {α : Type} (xs : List α) (lo hi : Option Int) : List α := (xs.drop (HT.sIx xs.length 0 lo)).take (HT.sIx xs.length xs.length hi - HT.sIx xs.length 0 lo)
def gSl : T → Option Int → Option Int → Option T
  | .lst ts, lo, hi => some (.lst (cutT ts lo hi))
  | .tup ts, lo, hi => some (.tup (cutT ts lo hi))
  | _, _, _ => none
def gSlN : T → Option Int → Option Int → Option T
  | .lst ts, lo, hi => some (.lst (cutT ts lo hi))
  | _, _, _ => none
def eSl (g : T → Option Int → Option Int → Option T) (f : Ex) (lo hi : Ox) : Ex := fun γ => (f γ).bind fun p => (lo p.2).bind fun q => (hi q.2).bind fun r => (g p.1 q.1 r.1).map fun z => (z, r.2)
def SlT (K : PySem.W.Frag) (r : V → Option Int → Option Int → Hp → VK → Prop) (m : Bool) (g : T → Option Int → Option Int → Option T) : Prop :=
  ∀ (N : Nt) (G : Hp) (κ : List Bool) (σ : L2.St) (H : Hp) (γ : En) (B : List Nat) (tx tz : T) (lo hi : Option Int) (x : V), Sta K N G κ σ H γ → Rdy K κ G σ γ B tx x → g tx lo hi = some tz →
    ∀ Q : VK, (∀ v G' H', Same G G' → Sta K N G' κ σ H' γ → Rsl K m N κ G' σ H' γ [] tz v → Q v H') → r x lo hi H Q
theorem Reps.cut (r : Reps K G ts vs) (lo hi : Option Int) : Reps K G (cutT ts lo hi) (cutV vs lo hi) := by
  unfold cutT cutV
  rw [r.length]
  exact (r.drop _).take _
theorem cutV_all {xs : List V} {lo hi : Option Int} (h : HT.sIx xs.length 0 lo = 0 ∧ HT.sIx xs.length xs.length hi = xs.length) : cutV xs lo hi = xs := by
  unfold cutV
  rw [h.1, h.2]
  simp
theorem cutT_all {α : Type} {xs : List α} {lo hi : Option Int} (h : HT.sIx xs.length 0 lo = 0 ∧ HT.sIx xs.length xs.length hi = xs.length) : cutT xs lo hi = xs := by
  unfold cutT
  rw [h.1, h.2]
  simp
theorem slt_seq : SlT K (fun x lo hi H Q => rSlL K x lo hi H Q ∨ rSlA K x lo hi H Q) false gSl := by
  intro N G κ σ H γ B tx tz lo hi x S rx e Q q
  unfold gSl at e
  split at e
  · cases e
    obtain ⟨a, vs, rfl, h1, r1⟩ := rx.list S
    refine .inl ⟨a, vs, rfl, .inl (.inl h1), fun p hp => ?_⟩
    obtain ⟨G', s, S', r⟩ := S.listedL hp (r1.cut lo hi)
    exact q _ G' _ s S' (.old r)
  · cases e
    have k1 := Rdy.tupRep rx S
    obtain ⟨a, vs, rfl, h1, r1⟩ := rx.tuple S
    refine .inr ⟨a, vs, rfl, h1, fun z => ?_, fun z p hp => ?_⟩
    · rw [r1.length] at z
      rw [cutT_all z] at q
      exact q _ G H (Same.refl _) S (.old k1)
    · obtain ⟨G', s, S', r⟩ := S.tupled hp (r1.cut lo hi)
      exact q _ G' _ s S' (.old r)
  · cases e
theorem slt_new : SlT K (rSlL K) true gSlN := by
  intro N G κ σ H γ B tx tz lo hi x S rx e Q q
  unfold gSlN at e
  split at e
  · cases e
    obtain ⟨a, vs, rfl, h1, r1⟩ := rx.list S
    refine ⟨a, vs, rfl, .inl (.inl h1), fun p hp => ?_⟩
    obtain ⟨S', r⟩ := S.listed hp (r1.cut lo hi)
    exact q _ G _ (Same.refl _) S' (.new r)
  · cases e
theorem sl_seq : SlR X (fun x lo hi H Q => rSlL X.K x lo hi H Q ∨ rSlA X.K x lo hi H Q) := sl_list.or sl_tupA
theorem sx_sl {r : V → Option Int → Option Int → Hp → VK → Prop} {g : T → Option Int → Option Int → Option T} {lo hi : Option Expr} {p2 : Pos} {l1 l2 : Ox} (hr : SlR X r) (hg : SlT X.K r m g) (he : SX X e false B1 M1 κ f1) (hl : SO X lo M2 κ l1) (hu : SO X hi M3 κ l2)
    (hd : ∀ i, i ∈ B1 → i ∉ M2 := by decide) (hd2 : ∀ i, i ∈ B1 → i ∉ M3 := by decide) : SX X (.Subscript e (.Slice lo hi none p2) pos) m [] (M1 ++ (M2 ++ M3)) κ (eSl g f1 l1 l2) := by
  refine PE.weak (pe_slice hr he hl hu) fun σ H Q ⟨N, G, γ, r, γ', S, ef, q⟩ => ?_
  unfold eSl at ef
  obtain ⟨⟨t1, γ1⟩, e1, ef⟩ := Option.bind_eq_some_iff.mp ef
  obtain ⟨⟨t2, γ2⟩, e2, ef⟩ := Option.bind_eq_some_iff.mp ef
  obtain ⟨⟨t3, γ3⟩, e3, ef⟩ := Option.bind_eq_some_iff.mp ef
  obtain ⟨t4, e4, ef⟩ := Option.map_eq_some_iff.mp ef
  cases ef
  refine ⟨N, G, γ, t1, γ1, S, e1, fun v1 G1 H1 s1 S1 k1 r1 => ⟨N, G1, γ1, t2, γ2, S1, e2, fun G2 H2 s2 S2 k2 => ⟨N, G2, γ2, t3, _, S2, e3, fun G3 H3 s3 S3 k3 => ?_⟩⟩⟩
  have r1' := r1.rdy.mono (s2.trans s3) (γ' := γ3) (B' := B1) (fun i hi => (k3 i (hd2 i hi)).trans (k2 i (hd i hi))) (fun _ h => h)
  exact hg N G3 κ σ H3 γ3 B1 t1 _ t2 t3 v1 S3 r1' e4 Q fun v G4 H4 s4 S4 rs => q v G4 H4 (((s1.trans s2).trans s3).trans s4) S4 (k1.trans (k2.trans k3)) rs
/-- xs[::-1] -/
def gRev : T → Option T
  | .lst ts => some (.lst ts.reverse)
  | _ => none
theorem sx_rev {k : Nat} {p1 p2 p3 : Pos} (he : SX X e false B M κ f) : SX X (.Subscript e (.Slice none none (some (.UnaryOp .USub (.Constant (.int 1) k p1) p2)) p3) pos) true [] M κ (eUn gRev f) :=
  PE.weak (pe_revL he) fun σ H Q ⟨N, G, γ, r, γ', S, ef, q⟩ => by
  unfold eUn at ef
  obtain ⟨⟨t1, γ1⟩, e1, ef⟩ := Option.bind_eq_some_iff.mp ef
  obtain ⟨t4, e4, ef⟩ := Option.map_eq_some_iff.mp ef
  cases ef
  have e5 : ∃ ts, t1 = .lst ts ∧ r = .lst ts.reverse := by
    cases t1 with
    | lst ts => cases e4; exact ⟨ts, rfl, rfl⟩
    | _ => cases e4
  obtain ⟨ts, rfl, rfl⟩ := e5
  refine ⟨N, G, γ, _, _, S, e1, fun v1 G1 H1 s1 S1 k1 r1 => ?_⟩
  obtain ⟨a, vs, rfl, h1, r1⟩ := r1.rdy.list S1
  refine ⟨a, vs, rfl, .inl (.inl h1), fun p hp => ?_⟩
  obtain ⟨S', r⟩ := S1.listed hp r1.reverse
  exact q _ G1 _ s1 S' k1 (.new r)
end
end Tw

namespace Tw
open PySem PySem.Spec PyProof.Rows L2

/-! ### statements -/
inductive Out where
  | nx (γ : En) | rt (t : T) (γ : En) | bk (γ : En) | ct (γ : En)
abbrev Fs := En → Option Out
def RetR (K : PySem.W.Frag) (N : Nt) (rk : Bool) (G H : Hp) (t : T) (v : V) : Prop :=
  if rk then ∃ a o, v = .ref a ∧ G a = none ∧ H a = some o ∧ Ho K G o t ∧ N.H a = none else Rep K G t v
def Fin (K : PySem.W.Frag) (N : Nt) (G : Hp) (κ' κb : List Bool) (rk : Bool) (D : Ends) : Out → Prop
  | .nx γ' => ∀ σ' H' G', Same G G' → Sta K N G' κ' σ' H' γ' → D.nx σ' H'
  | .bk γ' => ∀ σ' H' G', Same G G' → Sta K N G' κb σ' H' γ' → D.bk σ' H'
  | .ct γ' => ∀ σ' H' G', Same G G' → Sta K N G' κb σ' H' γ' → D.ct σ' H'
  | .rt t γ' => ∀ v σ' H' G' κr, Same G G' → Sta K N G' κr σ' H' γ' → RetR K N rk G' H' t v → D.rt v H'
def cS (K : PySem.W.Frag) (κ κ' κb : List Bool) (rk : Bool) (pl : List Nat) (F : Fs) : TS := fun D σ H => ∃ N G γ o, N.pins.map (·.1) = pl ∧ Sta K N G κ σ H γ ∧ F γ = some o ∧ Fin K N G κ' κb rk D o
/-- a statement: κ ahead, κ' behind, κb at break and continue; rk: what is handed back is new; pl: the slots that stay -/
abbrev SS (X : Cx) (st : Stmt) (κ κ' κb : List Bool) (rk : Bool) (pl : List Nat) (F : Fs) : Prop := PS X st (cS X.K κ κ' κb rk pl F)
abbrev SSs (X : Cx) (st : List Stmt) (κ κ' κb : List Bool) (rk : Bool) (pl : List Nat) (F : Fs) : Prop := PSs X st (cS X.K κ κ' κb rk pl F)

def sNx : Fs := fun γ => some (.nx γ)
def sSeq (F1 F2 : Fs) : Fs := fun γ => match F1 γ with
  | some (.nx γ') => F2 γ'
  | o => o
def sKill (i : Nat) (F : Fs) : Fs := fun γ => F (γ.set i none)
def sAsg (i : Nat) (f : Ex) : Fs := fun γ => (f γ).map fun p => .nx (p.2.set i (some p.1))
def sDrop (f : Ex) : Fs := fun γ => (f γ).map fun p => .nx p.2
def sRet (f : Ex) : Fs := fun γ => (f γ).map fun p => .rt p.1 p.2
def sRetN : Fs := fun γ => some (.rt .non γ)
def sBrk : Fs := fun γ => some (.bk γ)
def sCnt : Fs := fun γ => some (.ct γ)
def sIf (c : Tx) (F1 F2 : Fs) : Fs := fun γ => (c γ).bind fun p => if p.1 then F1 p.2 else F2 p.2
def sNo : Fs := fun _ => none

section
variable {X : Cx} {K : PySem.W.Frag} {N : Nt} {G G' H H' : Hp} {σ : L2.St} {γ γ' : En} {ts : List T} {vs : List V} {t : T} {v : V}
variable {κ κ1 κ2 κb : List Bool} {rk : Bool} {pl : List Nat} {F F1 F2 : Fs} {st : Stmt} {rest : List Stmt} {D D' : Ends} {o : Out}
variable {e a b c : Expr} {es : List Expr} {pos p apos cpos pos' : Pos} {m : Bool} {B B1 B2 M M1 M2 M3 : List Nat} {f f1 f2 f3 : Ex} {g1 g2 : Ax} {c1 c2 : Tx} {x name : Str}
theorem Fin.mono (h : Fin K N G κ κb rk D o) (s : Same G G') : Fin K N G' κ κb rk D o := by
  cases o with
  | nx _ => exact fun σ' H' G2 s2 S => h σ' H' G2 (s.trans s2) S
  | bk _ => exact fun σ' H' G2 s2 S => h σ' H' G2 (s.trans s2) S
  | ct _ => exact fun σ' H' G2 s2 S => h σ' H' G2 (s.trans s2) S
  | rt _ _ => exact fun v σ' H' G2 κr s2 S => h v σ' H' G2 κr (s.trans s2) S
theorem sss_nil : SSs X [] κ κ κb rk pl sNx := PSs.weak pss_nil fun D σ H ⟨N, G, γ, o, hp, S, e, q⟩ => by
  cases e
  exact q σ H G (Same.refl _) S
theorem sss_cons (h1 : SS X st κ κ1 κb rk pl F1) (h2 : SSs X rest κ1 κ2 κb rk pl F2) : SSs X (st :: rest) κ κ2 κb rk pl (sSeq F1 F2) := PSs.weak (pss_cons h1 h2) fun D σ H ⟨N, G, γ, o, hp, S, e, q⟩ => by
  unfold sSeq at e
  cases h : F1 γ with
  | none => rw [h] at e; cases e
  | some o1 =>
    rw [h] at e
    refine ⟨N, G, γ, o1, hp, S, h, ?_⟩
    cases o1 with
    | nx γ1 => exact fun σ' H' G' s S' => ⟨N, G', γ1, o, hp, S', e, q.mono s⟩
    | bk _ => cases e; exact q
    | ct _ => cases e; exact q
    | rt _ _ => cases e; exact q
theorem sss_one (h1 : SS X st κ κ1 κb rk pl F1) : SSs X [st] κ κ1 κb rk pl F1 := PSs.weak (pss_one h1) fun D σ H h => h
/-! what is not seen: an owned list lasts from here on; a slot is forgotten -/
theorem Sta.freeze {i : Nat} (S : Sta K N G κ σ H γ) (hp : i ∉ N.pins.map (·.1)) (hk : κ[i]? = some true) : ∃ G', Same G G' ∧ Sta K N G' (κ.set i false) σ H γ := by
  have hlt : i < κ.length := (List.getElem?_eq_some_iff.mp hk).1
  have kne : ∀ j : Nat, j ≠ i → (κ.set i false)[j]? = κ[j]? := fun j hj => List.getElem?_set_ne (Ne.symm hj)
  have ki : (κ.set i false)[i]? = some false := by rw [List.getElem?_set_self hlt]
  have pinK : ∀ p ∈ N.pins, (κ.set i false)[p.1]? = some true ∧ (∃ t : T, γ[p.1]? = some (some t)) ∧ σ[p.1]? = some (some (.ref p.2)) := fun p hm => by
    have hne : p.1 ≠ i := fun z => hp (z ▸ List.mem_map_of_mem (f := (·.1)) hm)
    rw [kne _ hne]
    exact S.pin p hm
  have ownK : ∀ j : Nat, (κ.set i false)[j]? = some true → κ[j]? = some true ∧ j ≠ i := fun j hj => by
    by_cases z : j = i
    · rw [z, ki] at hj; cases hj
    · rw [kne j z] at hj; exact ⟨hj, z⟩
  by_cases hs : ∃ t, γ[i]? = some (some t)
  · obtain ⟨t, ht⟩ := hs
    obtain ⟨a, o, e1, e2, e3, e4, e5⟩ := S.own i t hk ht
    have s1 : Same G (upd G a o) := fun b x e => by rw [upd_ne (ne_of_none e e2)]; exact e
    have e6 : N.H a = none := by
      rcases e5 with e5 | e5
      · exact e5
      · obtain ⟨q, hq, rfl⟩ := List.mem_map.mp e5
        obtain ⟨k, ⟨u, hu⟩, hs⟩ := S.pin q hq
        have := S.sep _ _ _ _ _ hk k ht hu e1 hs
        exact absurd (this ▸ List.mem_map_of_mem (f := (·.1)) hq) hp
    refine ⟨_, s1, ⟨fun b x e => ?_, S.len, fun j u k g => ?_, fun j u k g => ?_, fun j l u w b k1 k2 => S.sep j l u w b (ownK j k1).1 (ownK l k2).1, by rw [List.length_set]; exact S.klen, pinK, S.frm, S.gle.trans s1, fun b hb => ?_⟩⟩
    · by_cases hb : b = a
      · subst hb; rw [upd_same] at e; cases e; exact e3
      · rw [upd_ne hb] at e; exact S.le _ _ e
    · by_cases z : j = i
      · subst z
        rw [ht] at g; cases g
        exact ⟨_, e1, (e4.mono s1).rep upd_same⟩
      · rw [kne j z] at k
        obtain ⟨v, q1, q2⟩ := S.shr j u k g
        exact ⟨v, q1, q2.mono s1⟩
    · obtain ⟨k', z⟩ := ownK j k
      obtain ⟨b, o', q1, q2, q3, q4, q5⟩ := S.own j u k' g
      refine ⟨b, o', q1, ?_, q3, q4.mono s1, q5⟩
      rw [upd_ne]
      · exact q2
      · rintro rfl
        exact z (S.sep _ _ _ _ _ k' hk g ht q1 e1)
    · by_cases hb' : b = a
      · subst hb'; exact .inr e6
      · rw [upd_ne hb'] at hb; exact S.gfr b hb
  · refine ⟨G, Same.refl _, ⟨S.le, S.len, fun j u k g => ?_, fun j u k g => S.own j u (ownK j k).1 g, fun j l u w b k1 k2 => S.sep j l u w b (ownK j k1).1 (ownK l k2).1, by rw [List.length_set]; exact S.klen, pinK, S.frm, S.gle, S.gfr⟩⟩
    by_cases z : j = i
    · subst z; exact absurd ⟨u, g⟩ hs
    · rw [kne j z] at k; exact S.shr j u k g
theorem sss_freeze (i : Nat) (h : SSs X rest (κ.set i false) κ2 κb rk pl F) (hk : κ[i]? = some true := by rfl) (hp : i ∉ pl := by decide) : SSs X rest κ κ2 κb rk pl F := PSs.weak h fun D σ H ⟨N, G, γ, o, hp', S, e, q⟩ => by
  obtain ⟨G', s, S'⟩ := S.freeze (hp' ▸ hp) hk
  exact ⟨N, G', γ, o, hp', S', e, q.mono s⟩
theorem Sta.kill {i : Nat} {k : Bool} (S : Sta K N G κ σ H γ) (hp : i ∉ N.pins.map (·.1)) : Sta K N G (κ.set i k) σ H (γ.set i none) := by
  have gne : ∀ (j : Nat) (t : T), (γ.set i none)[j]? = some (some t) → j ≠ i ∧ γ[j]? = some (some t) := fun j t g => by
    by_cases z : j = i
    · subst z
      by_cases hl : j < γ.length
      · rw [List.getElem?_set_self hl] at g; cases g
      · rw [List.getElem?_eq_none (by simpa using hl)] at g; cases g
    · rw [List.getElem?_set_ne (Ne.symm z)] at g; exact ⟨z, g⟩
  have kne : ∀ j : Nat, j ≠ i → (κ.set i k)[j]? = κ[j]? := fun j hj => List.getElem?_set_ne (Ne.symm hj)
  refine ⟨S.le, by rw [List.length_set]; exact S.len, fun j u k g => ?_, fun j u k g => ?_, fun j l u w b k1 k2 g1 g2 => ?_, by rw [List.length_set, List.length_set]; exact S.klen, fun p hm => ?_, S.frm, S.gle, S.gfr⟩
  · obtain ⟨z, g⟩ := gne j u g
    rw [kne j z] at k
    exact S.shr j u k g
  · obtain ⟨z, g⟩ := gne j u g
    rw [kne j z] at k
    exact S.own j u k g
  · obtain ⟨z1, g1⟩ := gne j u g1
    obtain ⟨z2, g2⟩ := gne l w g2
    rw [kne j z1] at k1
    rw [kne l z2] at k2
    exact S.sep j l u w b k1 k2 g1 g2
  · have hne : p.1 ≠ i := fun z => hp (z ▸ List.mem_map_of_mem (f := (·.1)) hm)
    obtain ⟨q1, ⟨t, q2⟩, q3⟩ := S.pin p hm
    rw [kne _ hne]
    exact ⟨q1, ⟨t, by rw [List.getElem?_set_ne (Ne.symm hne)]; exact q2⟩, q3⟩
theorem sss_kill (i : Nat) (k : Bool) (h : SSs X rest (κ.set i k) κ2 κb rk pl F) (hp : i ∉ pl := by decide) : SSs X rest κ κ2 κb rk pl (sKill i F) := PSs.weak h fun D σ H ⟨N, G, γ, o, hp', S, e, q⟩ =>
  ⟨N, G, γ.set i none, o, hp', S.kill (hp' ▸ hp), e, q⟩

/-! ### stores -/
theorem Sta.store {i : Nat} (S : Sta K N G κ σ H γ) (hi : i < γ.length) (hp : i ∉ N.pins.map (·.1)) (r : Rep K G t v) : Sta K N G (κ.set i false) (σ.set i (some v)) H (γ.set i (some t)) := by
  have hs : i < σ.length := by rw [← S.len]; exact hi
  have hκ : i < κ.length := by rw [S.klen]; exact hi
  have ki : (κ.set i false)[i]? = some false := by rw [List.getElem?_set_self hκ]
  have own : ∀ j : Nat, (κ.set i false)[j]? = some true → κ[j]? = some true ∧ j ≠ i := fun j hj => by
    by_cases z : j = i
    · rw [z, ki] at hj; cases hj
    · rw [List.getElem?_set_ne (Ne.symm z)] at hj; exact ⟨hj, z⟩
  refine ⟨S.le, by rw [List.length_set, List.length_set]; exact S.len, fun j u k g => ?_, fun j u k g => ?_, fun j l u w b k1 k2 g1 g2 q1 q2 => ?_, by rw [List.length_set, List.length_set]; exact S.klen, fun p hm => ?_, S.frm, S.gle, S.gfr⟩
  · by_cases z : j = i
    · subst z
      rw [List.getElem?_set_self hi] at g
      cases g
      exact ⟨v, by rw [List.getElem?_set_self hs], r⟩
    · rw [List.getElem?_set_ne (Ne.symm z)] at k g ⊢
      exact S.shr j u k g
  · obtain ⟨k, z⟩ := own j k
    rw [List.getElem?_set_ne (Ne.symm z)] at g ⊢
    exact S.own j u k g
  · obtain ⟨k1, z1⟩ := own j k1
    obtain ⟨k2, z2⟩ := own l k2
    rw [List.getElem?_set_ne (Ne.symm z1)] at g1 q1
    rw [List.getElem?_set_ne (Ne.symm z2)] at g2 q2
    exact S.sep j l u w b k1 k2 g1 g2 q1 q2
  · have hne : p.1 ≠ i := fun z => hp (z ▸ List.mem_map_of_mem (f := (·.1)) hm)
    rw [List.getElem?_set_ne (Ne.symm hne), List.getElem?_set_ne (Ne.symm hne), List.getElem?_set_ne (Ne.symm hne)]
    exact S.pin p hm
theorem Sta.storeO {i : Nat} (S : Sta K N G κ σ H γ) (hi : i < γ.length) (hp : i ∉ N.pins.map (·.1)) (r : Fre K N κ G σ H γ t v) : Sta K N G (κ.set i true) (σ.set i (some v)) H (γ.set i (some t)) := by
  have hs : i < σ.length := by rw [← S.len]; exact hi
  have hκ : i < κ.length := by rw [S.klen]; exact hi
  obtain ⟨a, o, rfl, h1, h2, h3, h4, h5⟩ := r
  refine ⟨S.le, by rw [List.length_set, List.length_set]; exact S.len, fun j u k g => ?_, fun j u k g => ?_, fun j l u w b k1 k2 g1 g2 q1 q2 => ?_, by rw [List.length_set, List.length_set]; exact S.klen, fun p hm => ?_, S.frm, S.gle, S.gfr⟩
  · by_cases z : j = i
    · subst z
      rw [List.getElem?_set_self hκ] at k
      cases k
    · rw [List.getElem?_set_ne (Ne.symm z)] at k g ⊢
      exact S.shr j u k g
  · by_cases z : j = i
    · subst z
      rw [List.getElem?_set_self hi] at g
      cases g
      exact ⟨a, o, by rw [List.getElem?_set_self hs], h1, h2, h3, .inl h4⟩
    · rw [List.getElem?_set_ne (Ne.symm z)] at k g ⊢
      exact S.own j u k g
  · by_cases z1 : j = i
    · by_cases z2 : l = i
      · rw [z1, z2]
      · subst z1
        rw [List.getElem?_set_self hs] at q1
        rw [List.getElem?_set_ne (Ne.symm z2)] at k2 g2 q2
        cases q1
        exact absurd q2 (h5 l w k2 g2)
    · rw [List.getElem?_set_ne (Ne.symm z1)] at k1 g1 q1
      by_cases z2 : l = i
      · subst z2
        rw [List.getElem?_set_self hs] at q2
        cases q2
        exact absurd q1 (h5 j u k1 g1)
      · rw [List.getElem?_set_ne (Ne.symm z2)] at k2 g2 q2
        exact S.sep j l u w b k1 k2 g1 g2 q1 q2
  · have hne : p.1 ≠ i := fun z => hp (z ▸ List.mem_map_of_mem (f := (·.1)) hm)
    rw [List.getElem?_set_ne (Ne.symm hne), List.getElem?_set_ne (Ne.symm hne), List.getElem?_set_ne (Ne.symm hne)]
    exact S.pin p hm
theorem len_of {i : Nat} (S : Sta K N G κ σ H γ) (hk : i < κ.length) : i < γ.length := by rw [← S.klen]; exact hk
theorem ss_asg (i : Nat) (he : SX X e false [] M κ f) (hN : X.N.Nodup) (hi : X.N[i]? = some x := by rfl) (hx : Loc X.env.scope x := by first | exact Or.inl rfl | exact Or.inr rfl) (hk : i < κ.length := by decide) (hp : i ∉ pl := by decide)
    (hs : swapsWith e (some (.Name x pos')) pos.line X.env = pure false := by rfl) (hf : X.fn x = true ∨ X.env.scope.names.lookup x = some .local := by first | exact .inl rfl | exact .inr rfl) :
    SS X (.Assign [.Name x pos'] e pos) κ (κ.set i false) κb rk pl (sAsg i f) := PS.weak (ps_set hN hi hx he hs hf) fun D σ H ⟨N, G, γ, o, hp', S, ef, q⟩ => by
  unfold sAsg at ef
  obtain ⟨⟨t1, γ1⟩, e1, ef⟩ := Option.map_eq_some_iff.mp ef
  cases ef
  exact ⟨N, G, γ, t1, γ1, S, e1, fun v G1 H1 s1 S1 k1 r1 => q _ H1 G1 s1 (S1.store (len_of S1 hk) (hp' ▸ hp) r1.rdy.rep)⟩
theorem ss_asgO (i : Nat) (he : SX X e true B M κ f) (hN : X.N.Nodup) (hi : X.N[i]? = some x := by rfl) (hx : Loc X.env.scope x := by first | exact Or.inl rfl | exact Or.inr rfl) (hk : i < κ.length := by decide) (hp : i ∉ pl := by decide)
    (hs : swapsWith e (some (.Name x pos')) pos.line X.env = pure false := by rfl) (hf : X.fn x = true ∨ X.env.scope.names.lookup x = some .local := by first | exact .inl rfl | exact .inr rfl) :
    SS X (.Assign [.Name x pos'] e pos) κ (κ.set i true) κb rk pl (sAsg i f) := PS.weak (ps_set hN hi hx he hs hf) fun D σ H ⟨N, G, γ, o, hp', S, ef, q⟩ => by
  unfold sAsg at ef
  obtain ⟨⟨t1, γ1⟩, e1, ef⟩ := Option.map_eq_some_iff.mp ef
  cases ef
  exact ⟨N, G, γ, t1, γ1, S, e1, fun v G1 H1 s1 S1 k1 r1 => q _ H1 G1 s1 (S1.storeO (len_of S1 hk) (hp' ▸ hp) r1.fre)⟩
theorem ss_drop (he : SX X e m B M κ f) (hs : swapsWith e none pos.line X.env = pure false := by rfl) : SS X (.Expr e pos) κ κ κb rk pl (sDrop f) := PS.weak (ps_expr he hs) fun D σ H ⟨N, G, γ, o, hp', S, ef, q⟩ => by
  unfold sDrop at ef
  obtain ⟨⟨t1, γ1⟩, e1, ef⟩ := Option.map_eq_some_iff.mp ef
  cases ef
  exact ⟨N, G, γ, t1, γ1, S, e1, fun v G1 H1 s1 S1 k1 r1 => q _ H1 G1 s1 S1⟩
theorem ss_ret (he : SX X e false [] M κ f) : SS X (.Return (some e) pos) κ κ1 κb false pl (sRet f) := PS.weak (ps_ret he) fun D σ H ⟨N, G, γ, o, hp', S, ef, q⟩ => by
  unfold sRet at ef
  obtain ⟨⟨t1, γ1⟩, e1, ef⟩ := Option.map_eq_some_iff.mp ef
  cases ef
  refine ⟨N, G, γ, t1, γ1, S, e1, fun v G1 H1 s1 S1 k1 r1 => q v σ H1 G1 κ s1 S1 ?_⟩
  unfold RetR
  rw [if_neg (by decide)]
  exact r1.rdy.rep
theorem ss_retO (he : SX X e true B M κ f) : SS X (.Return (some e) pos) κ κ1 κb true pl (sRet f) := PS.weak (ps_ret he) fun D σ H ⟨N, G, γ, o, hp', S, ef, q⟩ => by
  unfold sRet at ef
  obtain ⟨⟨t1, γ1⟩, e1, ef⟩ := Option.map_eq_some_iff.mp ef
  cases ef
  refine ⟨N, G, γ, t1, γ1, S, e1, fun v G1 H1 s1 S1 k1 r1 => q v σ H1 G1 κ s1 S1 ?_⟩
  unfold RetR
  rw [if_pos rfl]
  obtain ⟨a, o, h1, h2, h3, h4, h5, _⟩ := r1.fre
  exact ⟨a, o, h1, h2, h3, h4, h5⟩
/-- return of an owned name -/
theorem ss_retV (i : Nat) (hk : κ[i]? = some true := by rfl) (hp : i ∉ pl := by decide) (hN : X.N[i]? = some x := by rfl) (hv : Vis X.env.scope x := by first | exact Or.inl rfl | exact Or.inr (Or.inl rfl) | exact Or.inr (Or.inr rfl))
    (hd : (x == ("__debug__" : Str)) = false := by decide) (hcd : (x == ("__classdict__" : Str)) = false := by decide) : SS X (.Return (some (.Name x p)) pos) κ κ1 κb true pl (sRet (eVar i)) :=
  PS.weak (ps_ret (pe_var hN hv hd hcd)) fun D σ H ⟨N, G, γ, o, hp', S, ef, q⟩ => by
  unfold sRet at ef
  obtain ⟨⟨t1, γ1⟩, e1, ef⟩ := Option.map_eq_some_iff.mp ef
  cases ef
  obtain ⟨h1, h2⟩ := eVar_some e1
  obtain ⟨a, ob, q1, q2, q3, q4, q5⟩ := S.own i t1 hk h1
  refine ⟨_, q1, q _ σ H G κ (Same.refl _) (h2 ▸ S) ?_⟩
  unfold RetR
  rw [if_pos rfl]
  refine ⟨a, ob, rfl, q2, q3, q4, ?_⟩
  rcases q5 with q5 | q5
  · exact q5
  · obtain ⟨z, hz, rfl⟩ := List.mem_map.mp q5
    obtain ⟨k, ⟨u, hu⟩, hs⟩ := S.pin z hz
    have := S.sep _ _ _ _ _ hk k h1 hu q1 hs
    exact absurd (this ▸ List.mem_map_of_mem (f := (·.1)) hz) (hp' ▸ hp)
theorem ss_retN : SS X (.Return none pos) κ κ1 κb false pl sRetN := PS.weak ps_retN fun D σ H ⟨N, G, γ, o, hp', S, ef, q⟩ => by
  cases ef
  refine q _ σ H G κ (Same.refl _) S ?_
  unfold RetR
  rw [if_neg (by decide)]
  exact .non
theorem ss_pass : SS X (.Pass pos) κ κ κb rk pl sNx := PS.weak ps_pass fun D σ H ⟨N, G, γ, o, hp', S, ef, q⟩ => by
  cases ef
  exact q σ H G (Same.refl _) S
theorem ss_break : SS X (.Break pos) κ κ1 κ rk pl sBrk := PS.weak ps_break fun D σ H ⟨N, G, γ, o, hp', S, ef, q⟩ => by
  cases ef
  exact q σ H G (Same.refl _) S
theorem ss_continue : SS X (.Continue pos) κ κ1 κ rk pl sCnt := PS.weak ps_continue fun D σ H ⟨N, G, γ, o, hp', S, ef, q⟩ => by
  cases ef
  exact q σ H G (Same.refl _) S
theorem ss_no : SS X st κ κ1 κb rk pl sNo := PS.weak ps_never fun D σ H ⟨N, G, γ, o, hp', S, ef, q⟩ => by cases ef
theorem ss_if {as bs : List Stmt} (hc : ST X c M κ c1) (ha : SSs X as κ κ1 κb rk pl F1) (hb : SSs X bs κ κ1 κb rk pl F2) : SS X (.If c as bs pos) κ κ1 κb rk pl (sIf c1 F1 F2) := PS.weak (ps_if hc ha hb) fun D σ H ⟨N, G, γ, o, hp', S, ef, q⟩ => by
  unfold sIf at ef
  obtain ⟨⟨k, γ1⟩, e1, ef⟩ := Option.bind_eq_some_iff.mp ef
  refine ⟨N, G, γ, k, γ1, S, e1, fun G1 H1 s1 S1 k1 => ?_⟩
  cases k with
  | true =>
    rw [if_pos rfl] at ef ⊢
    exact ⟨N, G1, γ1, o, hp', S1, ef, q.mono s1⟩
  | false =>
    dsimp only at ef
    rw [if_neg Bool.false_ne_true] at ef ⊢
    exact ⟨N, G1, γ1, o, hp', S1, ef, q.mono s1⟩
end

/-! ### while -/
def whileN (c : Tx) (F : Fs) : Nat → Fs
  | 0, _ => none
  | n + 1, γ => (c γ).bind fun p => if p.1 then (match F p.2 with
      | some (.nx γ') => whileN c F n γ'
      | some (.ct γ') => whileN c F n γ'
      | some (.bk γ') => some (.nx γ')
      | o => o) else some (.nx p.2)
open Classical in
noncomputable def sWhile (c : Tx) (F : Fs) : Fs := fun γ => if h : ∃ o, ∃ n, whileN c F n γ = some o then some h.choose else none
theorem whileN_mono {c : Tx} {F : Fs} : ∀ {n : Nat} {γ : En} {o : Out}, whileN c F n γ = some o → ∀ m, n ≤ m → whileN c F m γ = some o
  | 0, _, _, h, _, _ => by cases h
  | n + 1, γ, o, h, 0, hm => absurd hm (by omega)
  | n + 1, γ, o, h, m + 1, hm => by
    unfold whileN at h ⊢
    cases hc : c γ with
    | none => rw [hc] at h; cases h
    | some p =>
      rw [hc] at h
      simp only [Option.bind_some] at h ⊢
      split
      · rename_i hp
        rw [if_pos hp] at h
        cases hf : F p.2 with
        | none => rw [hf] at h; cases h
        | some q =>
          rw [hf] at h
          cases q with
          | nx γ' => exact whileN_mono h m (by omega)
          | ct γ' => exact whileN_mono h m (by omega)
          | bk γ' => exact h
          | rt _ _ => exact h
      · rename_i hp
        rw [if_neg hp] at h
        exact h
theorem sWhile_of {c : Tx} {F : Fs} {n : Nat} {γ : En} {o : Out} (h : whileN c F n γ = some o) : sWhile c F γ = some o := by
  unfold sWhile
  have hx : ∃ o, ∃ n, whileN c F n γ = some o := ⟨o, n, h⟩
  rw [dif_pos hx]
  obtain ⟨m, hm⟩ := hx.choose_spec
  have h1 := whileN_mono hm (max m n) (Nat.le_max_left _ _)
  have h2 := whileN_mono h (max m n) (Nat.le_max_right _ _)
  rw [h2] at h1
  rw [← Option.some.inj h1]
theorem sWhile_to {c : Tx} {F : Fs} {γ : En} {o : Out} (h : sWhile c F γ = some o) : ∃ n, whileN c F n γ = some o := by
  unfold sWhile at h
  split at h
  · rename_i hx
    obtain ⟨m, hm⟩ := hx.choose_spec
    cases h
    exact ⟨m, hm⟩
  · cases h
section
variable {X : Cx} {K : PySem.W.Frag} {N : Nt} {G G' H H' : Hp} {σ : L2.St} {γ γ' : En} {ts : List T} {vs : List V} {t : T} {v : V}
variable {κ κ1 κ2 κb : List Bool} {rk : Bool} {pl : List Nat} {F F1 F2 : Fs} {st : Stmt} {rest body : List Stmt} {D D' : Ends} {o : Out}
variable {e a b c : Expr} {es : List Expr} {pos p apos cpos pos' : Pos} {m : Bool} {B B1 B2 M M1 M2 M3 : List Nat} {f f1 f2 f3 : Ex} {g1 g2 : Ax} {c1 c2 : Tx} {x name : Str}
theorem ss_while (hp : PassesOwn (model X.prog X.w) X.A X.env X.xe) (hc : ST X c M κ c1) (hb : SSs X body κ κ κ rk pl F) : SS X (.While c body [] pos) κ κ κb rk pl (sWhile c1 F) := PS.weak (ps_while hp hc hb) fun D σ H ⟨N, G, γ, o, hp', S, ef, q⟩ => by
  obtain ⟨n, hn⟩ := sWhile_to ef
  refine ⟨fun n σ H => ∃ G1 γ1, Same G G1 ∧ Sta X.K N G1 κ σ H γ1 ∧ whileN c1 F n γ1 = some o, ⟨n, G, γ, Same.refl _, S, hn⟩, fun n σ H ⟨G1, γ1, s1, S1, h1⟩ => ?_⟩
  cases n with
  | zero => cases h1
  | succ n =>
    unfold whileN at h1
    obtain ⟨⟨k, γ2⟩, e1, h1⟩ := Option.bind_eq_some_iff.mp h1
    refine ⟨N, G1, γ1, k, γ2, S1, e1, fun G2 H2 s2 S2 k2 => ?_⟩
    cases k with
    | false =>
      dsimp only at h1
      rw [if_neg Bool.false_ne_true] at h1 ⊢
      cases h1
      exact q _ _ G2 (s1.trans s2) S2
    | true =>
      dsimp only at h1
      rw [if_pos rfl] at h1 ⊢
      refine ⟨fun σ H => ∃ G1 γ1, Same G G1 ∧ Sta X.K N G1 κ σ H γ1 ∧ whileN c1 F n γ1 = some o, fun σ' H' h => ⟨n, by omega, h⟩, ?_⟩
      cases hF : F γ2 with
      | none => rw [hF] at h1; cases h1
      | some o2 =>
        rw [hF] at h1
        refine ⟨N, G2, γ2, o2, hp', S2, hF, ?_⟩
        cases o2 with
        | nx γ3 => exact fun σ' H' G3 s3 S3 => ⟨G3, γ3, (s1.trans s2).trans s3, S3, h1⟩
        | ct γ3 => exact fun σ' H' G3 s3 S3 => ⟨G3, γ3, (s1.trans s2).trans s3, S3, h1⟩
        | bk γ3 => cases h1; exact fun σ' H' G3 s3 S3 => q σ' H' G3 ((s1.trans s2).trans s3) S3
        | rt t γ3 => cases h1; exact fun v σ' H' G3 κr s3 S3 => q v σ' H' G3 κr ((s1.trans s2).trans s3) S3

/-! ### for -/
def forL (tg : T → En → Option En) (F : Fs) : List T → Fs
  | [], γ => some (.nx γ)
  | t :: ts, γ => (tg t γ).bind fun γ1 => match F γ1 with
      | some (.nx γ') => forL tg F ts γ'
      | some (.ct γ') => forL tg F ts γ'
      | some (.bk γ') => some (.nx γ')
      | o => o
abbrev Ix := En → Option (List T × En)
def sFor (src : Ix) (tg : T → En → Option En) (F : Fs) : Fs := fun γ => (src γ).bind fun p => forL tg F p.1 p.2
/-- J walks the items, while what it stands on is as it was -/
def Wk (K : PySem.W.Frag) (κ : List Bool) (σ : L2.St) (γ : En) (B : List Nat) (items : List T) (G : Hp) (J : It) : Prop :=
  ∀ (i : Nat) (N1 : Nt) (G1 : Hp) (κ1 : List Bool) (σ1 : L2.St) (H1 : Hp) (γ1 : En), Same G G1 → Sta K N1 G1 κ1 σ1 H1 γ1 → (∀ j : Nat, j ∈ B → κ1[j]? = some true ∧ γ1[j]? = γ[j]? ∧ σ1[j]? = σ[j]?) →
    (∀ t, items[i]? = some t → J.go i H1 ∧ ∀ x H2, J.yld i H1 x H2 → ∃ G2, Same G1 G2 ∧ Sta K N1 G2 κ1 σ1 H2 γ1 ∧ Rep K G2 t x) ∧ (items.length ≤ i → J.stop i H1)
def cI (K : PySem.W.Frag) (B M : List Nat) (κ : List Bool) (f : Ix) : TI := fun σ H R => ∃ N G γ r γ', Sta K N G κ σ H γ ∧ f γ = some (r, γ') ∧
  ∀ J G' H', Same G G' → Sta K N G' κ σ H' γ' → Keeps M γ γ' → Wk K κ σ γ' B r G' J → R J H'
abbrev SI (X : Cx) (tg e : Expr) (B M : List Nat) (κ : List Bool) (f : Ix) : Prop := PI X tg e (cI X.K B M κ f)
/-- a target -/
def cG (K : PySem.W.Frag) (L : List Nat) (κ κ' : List Bool) (tg : T → En → Option En) : TG := fun v σ H Q => ∃ N G γ t γ', (∀ j : Nat, j ∈ L → j ∉ N.pins.map (·.1)) ∧ Sta K N G κ σ H γ ∧ Rep K G t v ∧ tg t γ = some γ' ∧
  ∀ σ', Sta K N G κ' σ' H γ' → (∀ j : Nat, j ∉ L → σ'[j]? = σ[j]? ∧ γ'[j]? = γ[j]?) → Q σ' H
abbrev SG (X : Cx) (e : Expr) (L : List Nat) (κ κ' : List Bool) (tg : T → En → Option En) : Prop := PG X e (cG X.K L κ κ' tg)
def tgN (i : Nat) : T → En → Option En := fun t γ => some (γ.set i (some t))
theorem sg_name (i : Nat) (hN : X.N.Nodup) (hi : X.N[i]? = some x := by rfl) (hx : Loc X.env.scope x := by first | exact Or.inl rfl | exact Or.inr rfl) (hk : i < κ.length := by decide)
    (hf : X.fn x = true ∨ X.env.scope.names.lookup x = some .local := by first | exact .inl rfl | exact .inr rfl) : SG X (.Name x pos) [i] κ (κ.set i false) (tgN i) := PG.weak (pg_name hN hi hx hf) fun v σ H Q ⟨N, G, γ, t, γ', hp', S, r, e, q⟩ => by
  cases e
  refine q _ (S.store (len_of S hk) (hp' i (by simp)) r) fun j hj => ?_
  have : j ≠ i := by simpa using hj
  rw [List.getElem?_set_ne (Ne.symm this), List.getElem?_set_ne (Ne.symm this)]
  exact ⟨rfl, rfl⟩
theorem Keeps.of_pl {M : List Nat} (h : Keeps M γ γ') : Keeps M γ γ' := h
theorem forL_walk {J : It} {tg : T → En → Option En} {g : TG} {tb : TS} {items : List T} {γ0 : En} {G0 : Hp} (hg : ∀ v σ H Q, cG X.K B1 κ κ1 tg v σ H Q → g v σ H Q) (hL : ∀ j : Nat, j ∈ B1 → j ∉ pl) (hb : ∀ D σ H, cS X.K κ1 κ κ rk pl F D σ H → tb D σ H)
    (hw : Wk X.K κ σ γ0 [] items G0 J) (hpl : N.pins.map (·.1) = pl) (S : Sta X.K N G0 κ σ H γ0) (ho : forL tg F items γ0 = some o) (q : Fin X.K N G0 κ κb rk D o) :
    ∃ W : Nat → Nat → L2.St → Hp → Prop, (∃ m, W 0 m σ H) ∧ ∀ i m σ H, W i m σ H →
      (J.stop i H ∧ D.nx σ H) ∨ (J.go i H ∧ ∃ N : L2.St → Hp → Prop, (∀ σ' H', N σ' H' → ∃ m', m' < m ∧ W (i + 1) m' σ' H') ∧ ∀ x H', J.yld i H x H' → g x σ H' fun σ2 H2 => tb { D with nx := N, ct := N, bk := D.nx } σ2 H2) := by
  refine ⟨fun i m σ H => m + i = items.length ∧ ∃ G1 γ1, Same G0 G1 ∧ Sta X.K N G1 κ σ H γ1 ∧ forL tg F (items.drop i) γ1 = some o, ⟨items.length, rfl, G0, γ0, Same.refl _, S, by simpa using ho⟩, fun i m σ1 H1 ⟨hm, G1, γ1, s1, S1, h1⟩ => ?_⟩
  obtain ⟨w1, w2⟩ := hw i N G1 κ σ1 H1 γ1 s1 S1 (fun j hj => by cases hj)
  by_cases hi : i < items.length
  · have hit : items[i]? = some items[i] := List.getElem?_eq_getElem hi
    obtain ⟨wg, wy⟩ := w1 _ hit
    refine .inr ⟨wg, fun σ' H' => (m - 1) + (i + 1) = items.length ∧ ∃ G1 γ1, Same G0 G1 ∧ Sta X.K N G1 κ σ' H' γ1 ∧ forL tg F (items.drop (i + 1)) γ1 = some o, fun σ' H' h => ⟨m - 1, by omega, h⟩, fun x H2 hy => ?_⟩
    obtain ⟨G2, s2, S2, r2⟩ := wy x H2 hy
    rw [List.drop_eq_getElem_cons hi] at h1
    unfold forL at h1
    obtain ⟨γ2, e2, h1⟩ := Option.bind_eq_some_iff.mp h1
    refine hg _ _ _ _ ⟨N, G2, γ1, _, γ2, fun j hj => hpl ▸ hL j hj, S2, r2, e2, fun σ3 S3 _ => hb _ _ _ ?_⟩
    cases hF : F γ2 with
    | none => rw [hF] at h1; cases h1
    | some o2 =>
      rw [hF] at h1
      refine ⟨N, G2, γ2, o2, hpl, S3, hF, ?_⟩
      cases o2 with
      | nx γ3 => exact fun σ' H' G3 s3 S3 => ⟨by omega, G3, γ3, (s1.trans s2).trans s3, S3, h1⟩
      | ct γ3 => exact fun σ' H' G3 s3 S3 => ⟨by omega, G3, γ3, (s1.trans s2).trans s3, S3, h1⟩
      | bk γ3 => cases h1; exact fun σ' H' G3 s3 S3 => q σ' H' G3 ((s1.trans s2).trans s3) S3
      | rt t γ3 => cases h1; exact fun v σ' H' G3 κr s3 S3 => q v σ' H' G3 κr ((s1.trans s2).trans s3) S3
  · refine .inl ⟨w2 (by omega), ?_⟩
    rw [List.drop_eq_nil_of_le (by omega)] at h1
    cases h1
    exact q _ _ G1 s1 S1
theorem ss_for {tge iter : Expr} {tg : T → En → Option En} {src : Ix} (hp : PassesOwn (model X.prog X.w) X.A X.env X.xe) (hc : X.calm = true) (hi : SI X tge iter [] M κ src) (hg : SG X tge B1 κ κ1 tg) (hb : SSs X body κ1 κ κ rk pl F) (hL : ∀ j : Nat, j ∈ B1 → j ∉ pl := by decide)
    (hs : ∀ x, foldedSetIterable iter X.env x = pure x := by intro _; rfl) : SS X (.For tge iter body [] pos) κ κ κb rk pl (sFor src tg F) := PS.weak (ps_for hp hc hi hg hb hs) fun D σ H ⟨N, G, γ, o, hp', S, ef, q⟩ => by
  unfold sFor at ef
  obtain ⟨⟨items, γ1⟩, e1, ef⟩ := Option.bind_eq_some_iff.mp ef
  refine ⟨N, G, γ, items, γ1, S, e1, fun J G1 H1 s1 S1 k1 w1 => ?_⟩
  exact forL_walk (fun _ _ _ _ h => h) hL (fun _ _ _ h => h) w1 hp' S1 ef (q.mono s1)
/-- over a list or a tuple that lasts -/
def iSeq (f : Ex) : Ix := fun γ => match f γ with
  | some (.lst ts, γ') => some (ts, γ')
  | _ => none
def iTupl (f : Ex) : Ix := fun γ => match f γ with
  | some (.tup ts, γ') => some (ts, γ')
  | _ => none
def iOld (f : Ex) : Ix := fun γ => match f γ with
  | some (.old ts, γ') => some (ts, γ')
  | _ => none
theorem wk_list {a : Addr} {vs : List V} {ts : List T} {G : Hp} (h : G a = some (.lst vs)) (r : Reps K G ts vs) : Wk K κ σ γ B ts G (Itl K a) := by
  intro i N1 G1 κ1 σ1 H1 γ1 s S _
  have hq : SqL K H1 a vs := .inl (.inl (S.le _ _ (s _ _ h)))
  refine ⟨fun t ht => ?_, fun hi => ⟨vs, hq, by rw [r.length]; exact hi⟩⟩
  obtain ⟨v, h1, h2⟩ := r.get ht
  refine ⟨⟨vs, v, hq, h1⟩, fun x H2 ⟨e, hy⟩ => ?_⟩
  subst e
  have := hy vs hq
  rw [h1] at this
  cases this
  exact ⟨G1, Same.refl _, S, h2.mono s⟩
theorem wk_old {a : Addr} {vs : List V} {ts : List T} {G : Hp} (h : SqL K G a vs) (r : Reps K G ts vs) : Wk K κ σ γ B ts G (Itl K a) := by
  intro i N1 G1 κ1 σ1 H1 γ1 s S _
  have hq : SqL K H1 a vs := S.le.seq (s.seq h)
  refine ⟨fun t ht => ?_, fun hi => ⟨vs, hq, by rw [r.length]; exact hi⟩⟩
  obtain ⟨v, h1, h2⟩ := r.get ht
  refine ⟨⟨vs, v, hq, h1⟩, fun x H2 ⟨e, hy⟩ => ?_⟩
  subst e
  have := hy vs hq
  rw [h1] at this
  cases this
  exact ⟨G1, Same.refl _, S, h2.mono s⟩
theorem wk_tup {a : Addr} {vs : List V} {ts : List T} {G : Hp} (h : SqT K G a vs) (r : Reps K G ts vs) : Wk K κ σ γ B ts G (Itt K a) := by
  intro i N1 G1 κ1 σ1 H1 γ1 s S _
  have hq : SqT K H1 a vs := Same.tup S.le (Same.tup s h)
  refine ⟨fun t ht => ?_, fun hi => ⟨vs, hq, by rw [r.length]; exact hi⟩⟩
  obtain ⟨v, h1, h2⟩ := r.get ht
  refine ⟨⟨vs, v, hq, h1⟩, fun x H2 ⟨e, hy⟩ => ?_⟩
  subst e
  have := hy vs hq
  rw [h1] at this
  cases this
  exact ⟨G1, Same.refl _, S, h2.mono s⟩
theorem si_list {tge : Expr} (h : SX X e false [] M κ f) : SI X tge e [] M κ (iSeq f) := PI.weak (pi_list h) fun σ H R ⟨N, G, γ, r, γ', S, ef, q⟩ => by
  unfold iSeq at ef
  split at ef
  · rename_i ts γ1 e1
    cases ef
    refine ⟨N, G, γ, _, _, S, e1, fun v G1 H1 s1 S1 k1 r1 => ?_⟩
    have r2 := r1.rdy.rep
    unfold Rep at r2
    obtain ⟨a, vs, rfl, h1, h2⟩ := r2
    exact ⟨a, rfl, ⟨vs, .inl (.inl (S1.le _ _ h1))⟩, q _ G1 H1 s1 S1 k1 (wk_list h1 h2)⟩
  · cases ef
theorem si_old {tge : Expr} (h : SX X e false [] M κ f) : SI X tge e [] M κ (iOld f) := PI.weak (pi_list h) fun σ H R ⟨N, G, γ, r, γ', S, ef, q⟩ => by
  unfold iOld at ef
  split at ef
  · rename_i ts γ1 e1
    cases ef
    refine ⟨N, G, γ, _, _, S, e1, fun v G1 H1 s1 S1 k1 r1 => ?_⟩
    have r2 := r1.rdy.rep
    unfold Rep at r2
    obtain ⟨a, vs, rfl, h1, h2⟩ := r2
    exact ⟨a, rfl, ⟨vs, S1.le.seq h1⟩, q _ G1 H1 s1 S1 k1 (wk_old h1 h2)⟩
  · cases ef
theorem si_tup {tge : Expr} (h : SX X e false [] M κ f) : SI X tge e [] M κ (iTupl f) := PI.weak (pi_tup h) fun σ H R ⟨N, G, γ, r, γ', S, ef, q⟩ => by
  unfold iTupl at ef
  split at ef
  · rename_i ts γ1 e1
    cases ef
    refine ⟨N, G, γ, _, _, S, e1, fun v G1 H1 s1 S1 k1 r1 => ?_⟩
    have r2 := r1.rdy.rep
    unfold Rep at r2
    obtain ⟨a, vs, rfl, h1, h2⟩ := r2
    exact ⟨a, rfl, ⟨vs, Same.tup S1.le h1⟩, q _ G1 H1 s1 S1 k1 (wk_tup h1 h2)⟩
  · cases ef
/-- over an owned list that stays as it is -/
theorem wk_rdy {v : V} {ts : List T} (S0 : Sta K N G κ σ H γ) (r : Rdy K κ G σ γ B (.lst ts) v) : ∃ a vs, v = .ref a ∧ SqL K H a vs ∧ Wk K κ σ γ B ts G (Itl K a) := by
  rcases r with r | ⟨j, hj, k, g, e⟩
  · unfold Rep at r
    obtain ⟨a, vs, e, s, q⟩ := r
    exact ⟨a, vs, e, .inl (.inl (S0.le _ _ s)), wk_list s q⟩
  · obtain ⟨a, o, e1, _, e3, ⟨vs0, rfl, q0⟩, _⟩ := S0.own j _ k g
    rw [e] at e1
    cases e1
    refine ⟨a, vs0, rfl, .inl (.inl e3), fun i N1 G1 κ1 σ1 H1 γ1 s S hB => ?_⟩
    obtain ⟨b1, b2, b3⟩ := hB j hj
    rw [g] at b2
    rw [e] at b3
    obtain ⟨a', o', q1, _, q3, ⟨vs, rfl, r⟩, _⟩ := S.own j _ b1 b2
    rw [b3] at q1
    cases q1
    have hq : SqL K H1 a vs := .inl (.inl q3)
    refine ⟨fun t ht => ?_, fun hi => ⟨vs, hq, by rw [r.length]; exact hi⟩⟩
    obtain ⟨v, h1, h2⟩ := r.get ht
    refine ⟨⟨vs, v, hq, h1⟩, fun x H2 ⟨e, hy⟩ => ?_⟩
    subst e
    have := hy vs hq
    rw [h1] at this
    cases this
    exact ⟨G1, Same.refl _, S, h2⟩
theorem si_own {tge : Expr} (h : SX X e false B M κ f) : SI X tge e B M κ (iSeq f) := PI.weak (pi_list h) fun σ H R ⟨N, G, γ, r, γ', S, ef, q⟩ => by
  unfold iSeq at ef
  split at ef
  · rename_i ts γ1 e1
    cases ef
    refine ⟨N, G, γ, _, _, S, e1, fun v G1 H1 s1 S1 k1 r1 => ?_⟩
    obtain ⟨a, vs, rfl, h1, h2⟩ := wk_rdy S1 r1.rdy
    exact ⟨a, rfl, ⟨vs, h1⟩, q _ G1 H1 s1 S1 k1 h2⟩
  · cases ef
/-- ranges -/
def rngT (lo : Int) (n : Nat) : List T := (List.range n).map fun k => T.int (lo + (k : Nat))
theorem wk_rng {lo : Int} {n : Nat} : Wk K κ σ γ B (rngT lo n) G (Itr lo n) := by
  intro i N1 G1 κ1 σ1 H1 γ1 s S _
  refine ⟨fun t ht => ?_, fun hi => show n ≤ i by simpa [rngT] using hi⟩
  unfold rngT at ht
  rw [List.getElem?_map] at ht
  by_cases hi : i < n
  · rw [List.getElem?_range hi] at ht
    cases ht
    refine ⟨hi, fun x H2 ⟨e, hy⟩ => ?_⟩
    subst e hy
    exact ⟨G1, Same.refl _, S, .int⟩
  · rw [List.getElem?_eq_none (by simpa using hi)] at ht
    cases ht
def iR1 (a : Ax) : Ix := fun γ => match a γ with
  | some ([.int j], γ') => if -4611686018427387904 ≤ j ∧ j < 4611686018427387904 then some (rngT 0 j.toNat, γ') else none
  | _ => none
def iR2 (a : Ax) : Ix := fun γ => match a γ with
  | some ([.int i, .int j], γ') => if -4611686018427387904 ≤ i ∧ i < 4611686018427387904 ∧ -4611686018427387904 ≤ j ∧ j < 4611686018427387904 then some (rngT i (j - i).toNat, γ') else none
  | _ => none
theorem si_r1 {tge : Expr} (hg : Gl X "range") (hm : X.mg "range" = none) (ha : SA X [a] B M κ g1) (hs : starEach [a] X.env = [(false, eval a X.env)] := by rfl) : SI X tge (.Call (.Name "range" p) [a] [] pos) [] M κ (iR1 g1) :=
  PI.weak (pi_range1 hg hm ha hs) fun σ H R ⟨N, G, γ, r, γ', S, ef, q⟩ => by
  unfold iR1 at ef
  split at ef
  · rename_i j γ1 e1
    split at ef <;> cases ef
    rename_i hj
    refine ⟨N, G, γ, _, _, S, e1, fun vs G1 H1 s1 S1 k1 r1 => ?_⟩
    obtain ⟨v, rfl, r2⟩ := r1.one
    refine ⟨j, by rw [r2.int S1], by omega, by omega, q _ G1 H1 s1 S1 k1 wk_rng⟩
  · cases ef
theorem si_r2 {tge : Expr} (hg : Gl X "range") (hm : X.mg "range" = none) (ha : SA X [a, b] B M κ g1) (hs : starEach [a, b] X.env = [(false, eval a X.env), (false, eval b X.env)] := by rfl) (hs2 : starEach [b] X.env = [(false, eval b X.env)] := by rfl) :
    SI X tge (.Call (.Name "range" p) [a, b] [] pos) [] M κ (iR2 g1) := PI.weak (pi_range2 hg hm ha hs hs2) fun σ H R ⟨N, G, γ, r, γ', S, ef, q⟩ => by
  unfold iR2 at ef
  split at ef
  · rename_i i j γ1 e1
    split at ef <;> cases ef
    rename_i hj
    refine ⟨N, G, γ, _, _, S, e1, fun vs G1 H1 s1 S1 k1 r1 => ?_⟩
    obtain ⟨v, w, rfl, r2, r3⟩ := r1.two
    refine ⟨i, j, by rw [r2.int S1, r3.int S1], hj, q _ G1 H1 s1 S1 k1 wk_rng⟩
  · cases ef
end
end Tw

namespace Tw
open PySem PySem.Spec PyProof.Rows L2

/-! ### defs and their calls -/
/-- what a def reckons: from the arguments, what it hands back and what the changed ones hold behind it -/
abbrev Sem' := List T → Option (T × List T)
def ioA : List Bool → List V → List Addr
  | true :: pk, .ref a :: vs => a :: ioA pk vs
  | _ :: pk, _ :: vs => ioA pk vs
  | _, _ => []
def ArgsE (K : PySem.W.Frag) (G H : Hp) : List Bool → List T → List V → Prop
  | [], ts, vs => ts = [] ∧ vs = []
  | k :: pk, ts, vs => ∃ t ts' v vs', ts = t :: ts' ∧ vs = v :: vs' ∧ (if k then ∃ a o, v = .ref a ∧ G a = none ∧ H a = some o ∧ Ho K G o t else Rep K G t v) ∧ ArgsE K G H pk ts' vs'
def OutsE (K : PySem.W.Frag) (G H : Hp) : List Bool → List T → List V → Prop
  | [], us, _ => us = []
  | true :: pk, us, vs => ∃ u us' v vs', us = u :: us' ∧ vs = v :: vs' ∧ (∃ a o, v = .ref a ∧ G a = none ∧ H a = some o ∧ Ho K G o u) ∧ OutsE K G H pk us' vs'
  | false :: pk, us, vs => ∃ v vs', vs = v :: vs' ∧ OutsE K G H pk us vs'
def ResE (K : PySem.W.Frag) (rk : Bool) (G' H' H : Hp) (t : T) (v : V) : Prop :=
  if rk then ∃ a o, v = .ref a ∧ G' a = none ∧ H' a = some o ∧ Ho K G' o t ∧ H a = none else Rep K G' t v
def spF (K : PySem.W.Frag) (pk : List Bool) (rk : Bool) (F : Sem') : Sp := fun vs H Q _ => ∃ G ts r outs, Same G H ∧ ArgsE K G H pk ts vs ∧ (ioA pk vs).Nodup ∧ F ts = some (r, outs) ∧
  ∀ v G' H', Same G G' → Same G' H' → (∀ a, G' a ≠ none → G a ≠ none ∨ H a = none) → (∀ b o, H b = some o → b ∉ ioA pk vs → H' b = some o) → OutsE K G' H' pk outs vs → ResE K rk G' H' H r v → Q v H'

theorem ArgsE.len {K : PySem.W.Frag} {G H : Hp} : ∀ {pk : List Bool} {ts : List T} {vs : List V}, ArgsE K G H pk ts vs → vs.length = pk.length ∧ ts.length = pk.length
  | [], _, _, ⟨e1, e2⟩ => by rw [e1, e2]; exact ⟨rfl, rfl⟩
  | k :: pk, _, _, ⟨t, ts', v, vs', e1, e2, _, h⟩ => by
    rw [e1, e2, List.length_cons, List.length_cons, List.length_cons, (ArgsE.len h).1, (ArgsE.len h).2]
    exact ⟨rfl, rfl⟩

/-- the arguments of a call: lasting ones, and owned slots that the callee may change -/
inductive Argk (K : PySem.W.Frag) (κ : List Bool) (G : Hp) (σ : L2.St) (γ : En) : List Bool → List Nat → List T → List V → Prop
  | nil : Argk K κ G σ γ [] [] [] []
  | cp {pk io t ts v vs} : Rep K G t v → Argk K κ G σ γ pk io ts vs → Argk K κ G σ γ (false :: pk) io (t :: ts) (v :: vs)
  | io {pk io t ts v vs} {i : Nat} : κ[i]? = some true → γ[i]? = some (some t) → σ[i]? = some (some v) → Argk K κ G σ γ pk io ts vs → Argk K κ G σ γ (true :: pk) (i :: io) (t :: ts) (v :: vs)
def cAK (K : PySem.W.Frag) (pk : List Bool) (io M : List Nat) (κ : List Bool) (f : Ax) : TA := fun σ H Q => ∃ N G γ r γ', Sta K N G κ σ H γ ∧ f γ = some (r, γ') ∧
  ∀ vs G' H', Same G G' → Sta K N G' κ σ H' γ' → Keeps M γ γ' → Argk K κ G' σ γ' pk io r vs → Q vs H'
abbrev SAK (X : Cx) (es : List Expr) (pk : List Bool) (io M : List Nat) (κ : List Bool) (f : Ax) : Prop := PA X es (cAK X.K pk io M κ f)
def setAll : En → List Nat → List T → En
  | γ, i :: io, u :: us => setAll (γ.set i (some u)) io us
  | γ, _, _ => γ
def eOwn (F : Sem') (io : List Nat) (a : Ax) : Ex := fun γ => (a γ).bind fun p => (F p.1).map fun q => (q.1, setAll p.2 io q.2)

section
variable {X : Cx} {K : PySem.W.Frag} {N : Nt} {G G' H H' : Hp} {σ : L2.St} {γ γ' : En} {ts us : List T} {vs : List V} {t : T} {v : V}
variable {κ κ1 κ2 κb : List Bool} {rk : Bool} {pl io : List Nat} {pk : List Bool} {F F1 F2 : Fs} {st : Stmt} {rest body : List Stmt} {D D' : Ends} {o : Out}
variable {e a b c : Expr} {es : List Expr} {pos p apos cpos pos' : Pos} {m : Bool} {B B1 B2 M M1 M2 M3 : List Nat} {f f1 f2 f3 : Ex} {g1 g2 : Ax} {c1 c2 : Tx} {x name : Str}
theorem sak_nil : SAK X [] [] [] [] κ aNil := PA.weak pa_nil fun σ H Q ⟨N, G, γ, r, γ', S, ef, q⟩ => by
  cases ef
  exact q [] G H (Same.refl _) S (.refl _ _) .nil
theorem sak_cp (ha : SX X e false [] M1 κ f) (hr : SAK X es pk io M2 κ g1) (hs : starEach (e :: es) X.env = (false, eval e X.env) :: starEach es X.env := by rfl) :
    SAK X (e :: es) (false :: pk) io (M1 ++ M2) κ (aCons f g1) := PA.weak (pa_cons ha hr hs) fun σ H Q ⟨N, G, γ, r, γ', S, ef, q⟩ => by
  unfold aCons at ef
  obtain ⟨⟨t1, γ1⟩, e1, ef⟩ := Option.bind_eq_some_iff.mp ef
  obtain ⟨⟨t2, γ2⟩, e2, ef⟩ := Option.map_eq_some_iff.mp ef
  cases ef
  refine ⟨N, G, γ, t1, γ1, S, e1, fun v1 G1 H1 s1 S1 k1 r1 => ⟨N, G1, γ1, t2, γ2, S1, e2, fun vs G2 H2 s2 S2 k2 r2 => ?_⟩⟩
  exact q (v1 :: vs) G2 H2 (s1.trans s2) S2 (k1.trans k2) (.cp (r1.rdy.rep.mono s2) r2)
/-- a changed slot, as it stands when all arguments are there -/
def aIo (i : Nat) (a : Ax) : Ax := fun γ => (eVar i γ).bind fun _ => (a γ).bind fun p => (eVar i p.2).map fun q => (q.1 :: p.1, p.2)
theorem sak_io (i : Nat) (hr : SAK X es pk io M2 κ g1) (hk : κ[i]? = some true := by rfl) (hN : X.N[i]? = some x := by rfl) (hv : Vis X.env.scope x := by first | exact Or.inl rfl | exact Or.inr (Or.inl rfl) | exact Or.inr (Or.inr rfl))
    (hdb : (x == ("__debug__" : Str)) = false := by decide) (hcd : (x == ("__classdict__" : Str)) = false := by decide) (hs : starEach (.Name x p :: es) X.env = (false, eval (.Name x p) X.env) :: starEach es X.env := by rfl) :
    SAK X (.Name x p :: es) (true :: pk) (i :: io) M2 κ (aIo i g1) := PA.weak (pa_cons (pe_var hN hv hdb hcd) hr hs) fun σ H Q ⟨N, G, γ, r, γ', S, ef, q⟩ => by
  unfold aIo at ef
  obtain ⟨⟨t1, γ1⟩, e1, ef⟩ := Option.bind_eq_some_iff.mp ef
  obtain ⟨⟨t2, γ2⟩, e2, ef⟩ := Option.bind_eq_some_iff.mp ef
  obtain ⟨⟨t3, γ3⟩, e3, ef⟩ := Option.map_eq_some_iff.mp ef
  cases ef
  obtain ⟨h1, rfl⟩ := eVar_some e1
  obtain ⟨h3, rfl⟩ := eVar_some e3
  obtain ⟨ad, ob, h2, _⟩ := S.own i t1 hk h1
  refine ⟨_, h2, N, G, _, t2, _, S, e2, fun vs G2 H2 s2 S2 k2 r2 => ?_⟩
  exact q _ G2 H2 s2 S2 k2 (.io hk h3 h2 r2)
theorem Argk.argsE (S : Sta K N G κ σ H γ) : ∀ {pk : List Bool} {io : List Nat} {ts : List T} {vs : List V}, Argk K κ G σ γ pk io ts vs → ArgsE K G H pk ts vs
  | _, _, _, _, .nil => ⟨rfl, rfl⟩
  | _, _, _, _, .cp r h => ⟨_, _, _, _, rfl, rfl, by rw [if_neg (by decide)]; exact r, Argk.argsE S h⟩
  | _, _, _, _, .io k g s h => by
    obtain ⟨a, ob, e1, e2, e3, e4, _⟩ := S.own _ _ k g
    rw [s] at e1
    cases e1
    exact ⟨_, _, _, _, rfl, rfl, by rw [if_pos rfl]; exact ⟨a, ob, rfl, e2, e3, e4⟩, Argk.argsE S h⟩
theorem Argk.ioA_mem (S : Sta K N G κ σ H γ) : ∀ {pk : List Bool} {io : List Nat} {ts : List T} {vs : List V}, Argk K κ G σ γ pk io ts vs →
    ∀ b ∈ ioA pk vs, ∃ i t, i ∈ io ∧ κ[i]? = some true ∧ γ[i]? = some (some t) ∧ σ[i]? = some (some (.ref b))
  | _, _, _, _, .nil, b, hb => by cases hb
  | _, _, _, _, .cp (v := v) (pk := pk') (vs := vs') r h, b, hb => by
    have : b ∈ ioA pk' vs' := by cases v <;> exact hb
    exact Argk.ioA_mem S h b this
  | _, _, _, _, .io k g s h, b, hb => by
    obtain ⟨a, ob, e1, e2, e3, e4, _⟩ := S.own _ _ k g
    rw [s] at e1
    cases e1
    rcases List.mem_cons.mp hb with rfl | hb
    · exact ⟨_, _, List.mem_cons_self, k, g, s⟩
    · obtain ⟨i, t, hi, h'⟩ := Argk.ioA_mem S h b hb
      exact ⟨i, t, List.mem_cons_of_mem _ hi, h'⟩
theorem Argk.nodup (S : Sta K N G κ σ H γ) : ∀ {pk : List Bool} {io : List Nat} {ts : List T} {vs : List V}, Argk K κ G σ γ pk io ts vs → io.Nodup → (ioA pk vs).Nodup
  | _, _, _, _, .nil, _ => List.nodup_nil
  | _, _, _, _, .cp (v := v) r h, hn => by
    have := Argk.nodup S h hn
    cases v <;> exact this
  | _, _, _, _, .io k g s h, hn => by
    obtain ⟨a, ob, e1, e2, e3, e4, _⟩ := S.own _ _ k g
    rw [s] at e1
    cases e1
    obtain ⟨h1, h2⟩ := List.nodup_cons.mp hn
    refine List.nodup_cons.mpr ⟨fun hb => ?_, Argk.nodup S h h2⟩
    obtain ⟨i, t, hi, k', g', s'⟩ := Argk.ioA_mem S h a hb
    exact h1 (S.sep _ _ _ _ _ k k' g g' s s' ▸ hi)
theorem setAll_ne : ∀ {io : List Nat} {us : List T} {γ : En} {j : Nat}, j ∉ io → (setAll γ io us)[j]? = γ[j]?
  | [], _, _, _, _ => rfl
  | _ :: _, [], _, _, _ => rfl
  | i :: io, u :: us, γ, j, hj => by
    show (setAll (γ.set i (some u)) io us)[j]? = _
    rw [setAll_ne fun h => hj (List.mem_cons_of_mem _ h), List.getElem?_set_ne]
    rintro rfl
    exact hj List.mem_cons_self
theorem setAll_length : ∀ {io : List Nat} {us : List T} {γ : En}, (setAll γ io us).length = γ.length
  | [], _, _ => rfl
  | _ :: _, [], _ => rfl
  | i :: io, u :: us, γ => by
    show (setAll (γ.set i (some u)) io us).length = _
    rw [setAll_length, List.length_set]
/-- behind a call: what stands in the changed slots -/
theorem Argk.outs (S : Sta K N G κ σ H γ) : ∀ {pk : List Bool} {io : List Nat} {ts us : List T} {vs : List V} {γ1 : En}, Argk K κ G σ γ pk io ts vs → io.Nodup → OutsE K G' H' pk us vs → γ1.length = γ.length →
    ∀ j, j ∈ io → ∃ u a o, (setAll γ1 io us)[j]? = some (some u) ∧ σ[j]? = some (some (.ref a)) ∧ G' a = none ∧ H' a = some o ∧ Ho K G' o u
  | _, _, _, _, _, _, .nil, _, _, _, j, hj => by cases hj
  | _, _, _, _, _, _, .cp r h, hn, ho, hl, j, hj => by
    obtain ⟨v', vs', e, ho⟩ := ho
    cases e
    exact Argk.outs S h hn ho hl j hj
  | _, _, _, _, _, γ1, .io (i := i) (io := io') k g s h, hn, ho, hl, j, hj => by
    obtain ⟨u, us', v', vs', rfl, e, ⟨a, ob, rfl, o1, o2, o3⟩, ho⟩ := ho
    cases e
    obtain ⟨h1, h2⟩ := List.nodup_cons.mp hn
    by_cases z : j ∈ io'
    · exact Argk.outs S h h2 ho (γ1 := γ1.set i (some u)) (by rw [List.length_set]; exact hl) j z
    · have ej : j = i := by
        rcases List.mem_cons.mp hj with rfl | hj
        · rfl
        · exact absurd hj z
      subst ej
      refine ⟨u, a, ob, ?_, s, o1, o2, o3⟩
      show (setAll (γ1.set j (some u)) _ us')[j]? = _
      rw [setAll_ne z, List.getElem?_set_self]
      rw [hl]
      exact (List.getElem?_eq_some_iff.mp g).1
theorem Argk.io_own {pk : List Bool} {io : List Nat} {ts : List T} {vs : List V} (h : Argk K κ G σ γ pk io ts vs) : ∀ j, j ∈ io → κ[j]? = some true ∧ ∃ t, γ[j]? = some (some t) := by
  induction h with
  | nil => intro j hj; cases hj
  | cp _ _ ih => exact ih
  | io k g s _ ih =>
    intro j hj
    rcases List.mem_cons.mp hj with rfl | hj
    · exact ⟨k, _, g⟩
    · exact ih j hj
/-- the state behind a call -/
theorem Sta.called {v : V} {outs : List T} (S : Sta K N G κ σ H γ) (A : Argk K κ G σ γ pk io ts vs) (hn : io.Nodup) (s1 : Same G G') (s2 : Same G' H') (hd : ∀ a, G' a ≠ none → G a ≠ none ∨ H a = none)
    (hk : ∀ b o, H b = some o → b ∉ ioA pk vs → H' b = some o) (ho : OutsE K G' H' pk outs vs) : Sta K N G' κ σ H' (setAll γ io outs) := by
  have nfree : ∀ a, G a = none → H a ≠ none → G' a = none := fun a h1 h2 => by
    cases q : G' a with
    | none => rfl
    | some o =>
      rcases hd a (by rw [q]; simp) with h | h
      · exact absurd h1 h
      · exact absurd h h2
  have io_set : ∀ (j : Nat) u, (setAll γ io outs)[j]? = some (some u) → ∃ u', γ[j]? = some (some u') := fun j u h => by
    by_cases hj : j ∈ io
    · exact (A.io_own j hj).2
    · rw [setAll_ne hj] at h; exact ⟨u, h⟩
  refine ⟨s2, by rw [setAll_length]; exact S.len, fun i t k g => ?_, fun i t k g => ?_, fun i j t u a k1 k2 g1 g2 => ?_, by rw [setAll_length]; exact S.klen, fun q hq => ?_, fun a o h1 h2 => ?_, S.gle.trans s1, fun a ha => ?_⟩
  · have hi : i ∉ io := fun z => by rw [(A.io_own i z).1] at k; cases k
    rw [setAll_ne hi] at g
    obtain ⟨v, e1, e2⟩ := S.shr i t k g
    exact ⟨v, e1, e2.mono s1⟩
  · by_cases hi : i ∈ io
    · obtain ⟨u, a, ob, e1, e2, e3, e4, e5⟩ := A.outs (γ1 := γ) S hn ho rfl i hi
      rw [g] at e1
      cases e1
      obtain ⟨t0, ht0⟩ := (A.io_own i hi).2
      obtain ⟨a', _, q1, _, _, _, q5⟩ := S.own i t0 k ht0
      rw [e2] at q1
      cases q1
      exact ⟨a, ob, e2, e3, e4, e5, q5⟩
    · rw [setAll_ne hi] at g
      obtain ⟨a, ob, e1, e2, e3, e4, e5⟩ := S.own i t k g
      refine ⟨a, ob, e1, nfree a e2 (by rw [e3]; simp), hk a ob e3 fun hb => ?_, e4.mono s1, e5⟩
      obtain ⟨j, u, hj, k', g', s'⟩ := A.ioA_mem S a hb
      exact hi (S.sep _ _ _ _ _ k k' g g' e1 s' ▸ hj)
  · obtain ⟨t', g1⟩ := io_set i t g1
    obtain ⟨u', g2⟩ := io_set j u g2
    exact S.sep i j t' u' a k1 k2 g1 g2
  · obtain ⟨q1, ⟨u, q2⟩, q3⟩ := S.pin q hq
    refine ⟨q1, ?_, q3⟩
    by_cases hi : q.1 ∈ io
    · obtain ⟨u, a, ob, e1, _⟩ := A.outs (γ1 := γ) S hn ho rfl q.1 hi
      exact ⟨u, e1⟩
    · exact ⟨u, by rw [setAll_ne hi]; exact q2⟩
  · refine hk a o (S.frm a o h1 h2) fun hb => ?_
    obtain ⟨j, u, hj, k', g', s'⟩ := A.ioA_mem S a hb
    obtain ⟨a', _, e1, _, _, _, e5⟩ := S.own j u k' g'
    rw [s'] at e1
    cases e1
    rcases e5 with e5 | e5
    · rw [h1] at e5; cases e5
    · exact h2 e5
  · rcases hd a ha with h | h
    · exact S.gfr a h
    · exact .inr (S.fresh h).2.1
theorem sx_own' {CX : CXT} {k : Nat} {fa : Addr} {fd : FuncData} {ps : List Str} {Fm : Sem'} {E : XK} (FO : FnOk X.prog X.w X.K X.mg X.base CX k fa fd ps (spF X.K pk rk Fm)) (hr : Room k X.A) (hg : Gl X x) (hm : X.mg x = some (.ref fa)) (hk : PySem.W.keepIn X.K (.ref fa) = true) (hb : Binds X.K fd ps [])
    (hx : Passes CX X E) (ha : SAK X (e :: es) pk io M κ g1) (hn : io.Nodup := by decide) (hdb : (x == ("__debug__" : Str)) = false := by decide) (he : starEach (e :: es) X.env = (false, eval e X.env) :: starEach es X.env := by rfl) (hpl : (backTo pos (starEach es X.env)).any (·.1) = false := by rfl) :
    SX X (.Call (.Name x p) (e :: es) [] pos) rk [] (M ++ io) κ (eOwn Fm io g1) := PE.weak (pe_call FO hr hg hm hk hb .nil hx ha hdb he hpl) fun σ H Q ⟨N, G, γ, r, γ', S, ef, q⟩ => by
  unfold eOwn at ef
  obtain ⟨⟨t1, γ1⟩, e1, ef⟩ := Option.bind_eq_some_iff.mp ef
  obtain ⟨⟨t2, outs⟩, e2, ef⟩ := Option.map_eq_some_iff.mp ef
  cases ef
  refine ⟨N, G, γ, t1, γ1, S, e1, fun vs G1 H1 s1 S1 k1 A => ?_⟩
  show spF X.K pk rk Fm (vs ++ []) H1 Q E
  rw [List.append_nil]
  refine ⟨G1, t1, t2, outs, S1.le, A.argsE S1, A.nodup S1 hn, e2, fun v G2 H2 s2 s3 hd hkp ho hr => ?_⟩
  have S2 := S1.called (v := v) A hn s2 s3 hd hkp ho
  refine q v G2 H2 (s1.trans s2) S2 (fun j hj => ?_) ?_
  · rw [List.mem_append, not_or] at hj
    rw [setAll_ne hj.2]
    exact k1 j hj.1
  · unfold ResE at hr
    unfold Rsl
    cases rk with
    | false =>
      rw [if_neg (by decide)] at hr ⊢
      exact .inl hr
    | true =>
      rw [if_pos rfl] at hr ⊢
      obtain ⟨a, ob, rfl, h1, h2, h3, h4⟩ := hr
      refine ⟨a, ob, rfl, h1, h2, h3, (S1.fresh h4).2.1, fun i u k g e => ?_⟩
      have : ∃ u', γ1[i]? = some (some u') := by
        by_cases hi : i ∈ io
        · exact (A.io_own i hi).2
        · rw [setAll_ne hi] at g; exact ⟨u, g⟩
      obtain ⟨u', g'⟩ := this
      obtain ⟨a', _, e1, _, e3, _⟩ := S1.own i u' k g'
      rw [e] at e1
      cases e1
      rw [h4] at e3
      cases e3

/-! ### a def by its body -/
def plOf : Nat → List Bool → List Nat
  | _, [] => []
  | i, true :: pk => i :: plOf (i + 1) pk
  | i, false :: pk => plOf (i + 1) pk
def outsOf (pl : List Nat) (γ : En) : List T := pl.map fun i => match γ[i]? with
  | some (some t) => t
  | _ => .non
/-- n slots, pl those that are handed back -/
def semOf (n : Nat) (pl : List Nat) (F : Fs) : Sem' := fun ts => match F (ts.map some ++ List.replicate (n - ts.length) none) with
  | some (.nx γ') => some (.non, outsOf pl γ')
  | some (.rt t γ') => some (t, outsOf pl γ')
  | _ => none
def pinsOf : Nat → List Bool → List V → List (Nat × Addr)
  | i, true :: pk, .ref a :: vs => (i, a) :: pinsOf (i + 1) pk vs
  | i, _ :: pk, _ :: vs => pinsOf (i + 1) pk vs
  | _, _, _ => []
theorem pinsOf_pl {K : PySem.W.Frag} {G H : Hp} : ∀ {pk : List Bool} {ts : List T} {vs : List V} {i : Nat}, ArgsE K G H pk ts vs → (pinsOf i pk vs).map (·.1) = plOf i pk ∧ (pinsOf i pk vs).map (·.2) = ioA pk vs
  | [], _, _, _, _ => ⟨rfl, rfl⟩
  | true :: pk, _, _, i, ⟨t, ts', v, vs', e1, e2, h1, h⟩ => by
    rw [if_pos rfl] at h1
    obtain ⟨a, ob, rfl, _⟩ := h1
    rw [e2]
    obtain ⟨q1, q2⟩ := pinsOf_pl (i := i + 1) h
    exact ⟨by show i :: _ = _; rw [q1]; rfl, by show a :: _ = _; rw [q2]; rfl⟩
  | false :: pk, _, _, i, ⟨t, ts', v, vs', e1, e2, h1, h⟩ => by
    rw [e2]
    obtain ⟨q1, q2⟩ := pinsOf_pl (i := i + 1) h
    cases v <;> exact ⟨q1, q2⟩
theorem pinsOf_mem {K : PySem.W.Frag} {G H : Hp} : ∀ {pk : List Bool} {ts : List T} {vs : List V} {i : Nat}, ArgsE K G H pk ts vs → ∀ p ∈ pinsOf i pk vs, i ≤ p.1 ∧ pk[p.1 - i]? = some true ∧ (∃ t, ts[p.1 - i]? = some t) ∧ vs[p.1 - i]? = some (.ref p.2)
  | [], _, _, _, _, p, hp => by cases hp
  | true :: pk, _, _, i, ⟨t, ts', v, vs', e1, e2, h1, h⟩, p, hp => by
    rw [if_pos rfl] at h1
    obtain ⟨a, ob, rfl, _⟩ := h1
    rw [e2] at hp ⊢
    rw [e1]
    rcases List.mem_cons.mp hp with rfl | hp
    · refine ⟨Nat.le_refl _, ?_, ⟨t, ?_⟩, ?_⟩ <;> simp
    · obtain ⟨q1, q2, ⟨t', q3⟩, q4⟩ := pinsOf_mem h p hp
      obtain ⟨d, hd⟩ : ∃ d, p.1 - i = d + 1 := ⟨p.1 - i - 1, by omega⟩
      have hd' : p.1 - (i + 1) = d := by omega
      rw [hd'] at q2 q3 q4
      rw [hd]
      exact ⟨by omega, by simpa using q2, ⟨t', by simpa using q3⟩, by simpa using q4⟩
  | false :: pk, _, _, i, ⟨t, ts', v, vs', e1, e2, h1, h⟩, p, hp => by
    rw [e2] at hp ⊢
    rw [e1]
    have hp : p ∈ pinsOf (i + 1) pk vs' := by cases v <;> exact hp
    obtain ⟨q1, q2, ⟨t', q3⟩, q4⟩ := pinsOf_mem h p hp
    obtain ⟨d, hd⟩ : ∃ d, p.1 - i = d + 1 := ⟨p.1 - i - 1, by omega⟩
    have hd' : p.1 - (i + 1) = d := by omega
    rw [hd'] at q2 q3 q4
    rw [hd]
    exact ⟨by omega, by simpa using q2, ⟨t', by simpa using q3⟩, by simpa using q4⟩
theorem ArgsE.get {K : PySem.W.Frag} {G H : Hp} : ∀ {pk : List Bool} {ts : List T} {vs : List V} {i : Nat} {t : T}, ArgsE K G H pk ts vs → ts[i]? = some t → ∃ k v, pk[i]? = some k ∧ vs[i]? = some v ∧ (if k then ∃ a o, v = .ref a ∧ G a = none ∧ H a = some o ∧ Ho K G o t else Rep K G t v)
  | [], _, _, _, _, ⟨e1, e2⟩, ht => by rw [e1] at ht; simp at ht
  | k :: pk, _, _, 0, _, ⟨t, ts', v, vs', e1, e2, h1, h⟩, ht => by
    rw [e1] at ht
    have ht := Option.some.inj ht
    subst ht
    rw [e2]
    exact ⟨k, v, rfl, rfl, h1⟩
  | k :: pk, _, _, i + 1, _, ⟨t, ts', v, vs', e1, e2, h1, h⟩, ht => by
    rw [e1] at ht
    rw [e2]
    obtain ⟨k', v', q1, q2, q3⟩ := ArgsE.get h (i := i) (by simpa using ht)
    exact ⟨k', v', by simpa using q1, by simpa using q2, q3⟩
theorem ioA_get {K : PySem.W.Frag} {G H : Hp} : ∀ {pk : List Bool} {ts : List T} {vs : List V} {i : Nat} {a : Addr}, ArgsE K G H pk ts vs → pk[i]? = some true → vs[i]? = some (.ref a) → a ∈ ioA pk vs
  | [], _, _, _, _, _, h, _ => by simp at h
  | k :: pk, _, _, 0, _, ⟨t, ts', v, vs', e1, e2, h1, h⟩, hk, hv => by
    have : k = true := by simpa using hk
    subst this
    rw [e2] at hv ⊢
    have hv := Option.some.inj hv
    subst hv
    exact List.mem_cons_self
  | k :: pk, _, _, i + 1, _, ⟨t, ts', v, vs', e1, e2, h1, h⟩, hk, hv => by
    rw [e2] at hv ⊢
    have := ioA_get h (i := i) (by simpa using hk) (by simpa using hv)
    cases k <;> cases v <;> first | exact this | exact List.mem_cons_of_mem _ this
theorem ioA_inj {K : PySem.W.Frag} {G H : Hp} : ∀ {pk : List Bool} {ts : List T} {vs : List V} {i j : Nat} {a : Addr}, ArgsE K G H pk ts vs → (ioA pk vs).Nodup → pk[i]? = some true → vs[i]? = some (.ref a) → pk[j]? = some true → vs[j]? = some (.ref a) → i = j
  | [], _, _, _, _, _, _, _, h, _, _, _ => by simp at h
  | k :: pk, _, _, 0, 0, _, _, _, _, _, _, _ => rfl
  | k :: pk, _, _, 0, j + 1, _, ⟨t, ts', v, vs', e1, e2, h1, h⟩, hn, hk, hv, hk2, hv2 => by
    have : k = true := by simpa using hk
    subst this
    rw [e2] at hv hv2 hn
    have hv := Option.some.inj hv
    subst hv
    exact absurd (ioA_get h (i := j) (by simpa using hk2) (by simpa using hv2)) (List.nodup_cons.mp hn).1
  | k :: pk, _, _, i + 1, 0, _, ⟨t, ts', v, vs', e1, e2, h1, h⟩, hn, hk2, hv2, hk, hv => by
    have : k = true := by simpa using hk
    subst this
    rw [e2] at hv hv2 hn
    have hv := Option.some.inj hv
    subst hv
    exact absurd (ioA_get h (i := i) (by simpa using hk2) (by simpa using hv2)) (List.nodup_cons.mp hn).1
  | k :: pk, _, _, i + 1, j + 1, _, ⟨t, ts', v, vs', e1, e2, h1, h⟩, hn, hk, hv, hk2, hv2 => by
    rw [e2] at hv hv2 hn
    have hn : (ioA pk vs').Nodup := by
      cases k <;> cases v <;> first | exact hn | exact (List.nodup_cons.mp hn).2
    rw [ioA_inj h hn (i := i) (j := j) (by simpa using hk) (by simpa using hv) (by simpa using hk2) (by simpa using hv2)]
theorem outsE_of (S : Sta K N G' κ σ H' γ) : ∀ {pk : List Bool} {ts : List T} {vs : List V} {i : Nat}, ArgsE K G H pk ts vs → (∀ p ∈ pinsOf i pk vs, p ∈ N.pins) → OutsE K G' H' pk (outsOf (plOf i pk) γ) vs
  | [], _, _, _, _, _ => rfl
  | true :: pk, _, _, i, ⟨t, ts', v, vs', e1, e2, h1, h⟩, hp => by
    rw [if_pos rfl] at h1
    obtain ⟨a, ob, rfl, _⟩ := h1
    rw [e2] at hp ⊢
    obtain ⟨k, ⟨u, hu⟩, hs⟩ := S.pin (i, a) (hp _ List.mem_cons_self)
    obtain ⟨a', ob', q1, q2, q3, q4, _⟩ := S.own i u k hu
    dsimp only at hs
    rw [hs] at q1
    cases q1
    refine ⟨u, outsOf (plOf (i + 1) pk) γ, _, _, ?_, rfl, ⟨a, ob', rfl, q2, q3, q4⟩, outsE_of S h fun p hq => hp p (List.mem_cons_of_mem _ hq)⟩
    show outsOf (i :: _) γ = _
    unfold outsOf
    rw [List.map_cons]
    dsimp only at hu
    rw [hu]
  | false :: pk, _, _, i, ⟨t, ts', v, vs', e1, e2, h1, h⟩, hp => by
    rw [e2] at hp ⊢
    exact ⟨v, vs', rfl, outsE_of S h fun p hq => hp p (by cases v <;> exact hq)⟩
/-- the state at a def's beginning -/
theorem Sta.begin {n : Nat} (s : Same G H) (A : ArgsE K G H pk ts vs) (hn : (ioA pk vs).Nodup) (hl : pk.length ≤ n) :
    Sta K ⟨H, G, pinsOf 0 pk vs⟩ G (pk ++ List.replicate (n - pk.length) false) (vs.map some ++ List.replicate (n - vs.length) none) H (ts.map some ++ List.replicate (n - ts.length) none) := by
  obtain ⟨l1, l2⟩ := A.len
  have gt : ∀ (i : Nat) (t : T), (ts.map some ++ List.replicate (n - ts.length) none)[i]? = some (some t) → i < ts.length ∧ ts[i]? = some t := fun i t h => by
    by_cases hi : i < ts.length
    · rw [List.getElem?_append_left (by simpa using hi), List.getElem?_map] at h
      exact ⟨hi, by simpa using h⟩
    · rw [List.getElem?_append_right (by simpa using hi), List.getElem?_replicate] at h
      split at h <;> cases h
  have gv : ∀ (i : Nat) (v : V), i < vs.length → vs[i]? = some v → (vs.map some ++ List.replicate (n - vs.length) none)[i]? = some (some v) := fun i v hi h => by
    rw [List.getElem?_append_left (by simpa using hi), List.getElem?_map, h]
    rfl
  have gk : ∀ (i : Nat) (b : Bool), i < pk.length → (pk ++ List.replicate (n - pk.length) false)[i]? = some b → pk[i]? = some b := fun i b hi h => by
    rw [List.getElem?_append_left hi] at h
    exact h
  refine ⟨s, by simp; omega, fun i t k g => ?_, fun i t k g => ?_, fun i j t u a k1 k2 g1 g2 q1 q2 => ?_, by simp; omega, fun p hp => ?_, fun a o h _ => h, Same.refl _, fun a h => .inl h⟩
  · obtain ⟨h1, h2⟩ := gt i t g
    obtain ⟨k', v, q1, q2, q3⟩ := A.get h2
    have := gk i _ (by omega) k
    rw [this] at q1
    cases q1
    exact ⟨v, gv i v (by omega) q2, by simpa using q3⟩
  · obtain ⟨h1, h2⟩ := gt i t g
    obtain ⟨k', v, q1, q2, q3⟩ := A.get h2
    have hk' := gk i _ (by omega) k
    rw [hk'] at q1
    cases q1
    rw [if_pos rfl] at q3
    obtain ⟨a, o, rfl, e1, e2, e3⟩ := q3
    refine ⟨a, o, gv i _ (by omega) q2, e1, e2, e3, .inr ?_⟩
    rw [(pinsOf_pl A).2]
    exact ioA_get A hk' q2
  · obtain ⟨h1, h2⟩ := gt i t g1
    obtain ⟨h3, h4⟩ := gt j u g2
    obtain ⟨_, v, _, p2, _⟩ := A.get h2
    obtain ⟨_, w, _, p4, _⟩ := A.get h4
    rw [gv i v (by omega) p2] at q1
    rw [gv j w (by omega) p4] at q2
    cases q1
    cases q2
    exact ioA_inj A hn (gk i _ (by omega) k1) p2 (gk j _ (by omega) k2) p4
  · obtain ⟨_, q2, ⟨t, q3⟩, q4⟩ := pinsOf_mem A p hp
    rw [Nat.sub_zero] at q2 q3 q4
    have hi := (List.getElem?_eq_some_iff.mp q2).1
    refine ⟨by rw [List.getElem?_append_left hi]; exact q2, ⟨t, ?_⟩, gv _ _ (by omega) q4⟩
    rw [List.getElem?_append_left (by rw [List.length_map]; omega), List.getElem?_map, q3]
    rfl
/-- THE RULE for a def -/
theorem def_ok {P : Program} {w : World} {mg : Str → Option Value} {base : Heap} {qual : Str} {fa : Addr} {fd : FuncData} {Ns ps : List Str} {k : Nat} {κ' : List Bool} (FU : Fun K x qual st fa fd) (sc : FnScope Ns ps (defScope st)) (hl : ps.length = pk.length)
    (hb : ∀ (cdv : Value) (A : Around) (outer : List Env) (s : Shared) (H : Hp) (E : XK), Room k (A.deeper (envOfC qual (defScope st) s.heap.objs.size fa cdv)) →
      SSs (cxOf CX0 P w K mg base Ns qual (defScope st) fa cdv A outer s H E).nox (defBody st) (pk ++ List.replicate (Ns.length - pk.length) false) κ' [] rk (plOf 0 pk) F) (hr : rk = true → ∀ γ γ', F γ ≠ some (.nx γ')) :
    FnOk P w K mg base CX0 (k + 1) fa fd ps (spF K pk rk (semOf Ns.length (plOf 0 pk) F)) := by
  refine FU.ok sc (fun vs H Q E h => ?_) (fun cdv AA outer s H vs Q E hroom h => ?_)
  · obtain ⟨G, ts, r, outs, _, A, _⟩ := h
    rw [A.len.1, hl]
  · obtain ⟨G, ts, r, outs, s1, A, hn, hF, q⟩ := h
    have hlen : pk.length ≤ Ns.length := by
      rw [← hl, ← sc.pre, List.length_take]
      exact Nat.min_le_right _ _
    have S0 := Sta.begin (n := Ns.length) s1 A hn hlen
    refine ⟨_, hb cdv AA outer s H E hroom, ?_⟩
    unfold semOf at hF
    have done : ∀ {t : T} {v : V} {σ' : L2.St} {H' G' : Hp} {κr : List Bool} {γ' : En}, Same G G' → Sta K ⟨H, G, pinsOf 0 pk vs⟩ G' κr σ' H' γ' → RetR K ⟨H, G, pinsOf 0 pk vs⟩ rk G' H' t v → r = t → outs = outsOf (plOf 0 pk) γ' → Q v H' := by
      intro t v σ' H' G' κr γ' s2 S' rr e1 e2
      refine q v G' H' s2 S'.le (fun a ha => S'.gfr a ha) (fun b o h1 h2 => S'.frm b o h1 (by rw [(pinsOf_pl A).2]; exact h2)) ?_ ?_
      · rw [e2]
        exact outsE_of S' A fun p hp => hp
      · rw [e1]
        unfold RetR at rr
        unfold ResE
        exact rr
    have e0 : start Ns vs = vs.map some ++ List.replicate (Ns.length - vs.length) none := rfl
    rw [e0]
    cases hf : F (ts.map some ++ List.replicate (Ns.length - ts.length) none) with
    | none => rw [hf] at hF; cases hF
    | some o =>
      rw [hf] at hF
      refine ⟨⟨H, G, pinsOf 0 pk vs⟩, G, _, o, (pinsOf_pl A).1, S0, hf, ?_⟩
      cases o with
      | nx γ' =>
        cases hF
        intro σ' H' G' s2 S'
        have hrk : rk = false := by
          cases rk with
          | false => rfl
          | true => exact absurd hf (hr rfl _ _)
        subst hrk
        refine done s2 S' (t := .non) (v := .non) ?_ rfl rfl
        unfold RetR
        rw [if_neg (by decide)]
        exact .non
      | rt t γ' =>
        cases hF
        intro v σ' H' G' κr s2 S' rr
        exact done s2 S' rr rfl rfl
      | bk _ => cases hF
      | ct _ => cases hF
end
end Tw

namespace Tw
open PySem PySem.Spec PyProof.Rows L2

/-! ### comprehensions -/
def wipeE (γ : En) : List Nat → En
  | [] => γ
  | i :: own => (wipeE γ own).set i none
/-- the slots of own as they were -/
def backE (γ0 γ : En) : List Nat → En
  | [] => γ
  | i :: own => (backE γ0 γ own).set i (γ0[i]?.getD none)
def tYesT : Tx := fun γ => some (true, γ)
def compL (own : List Nat) (tg : T → En → Option En) (test : Tx) (elt : Ex) : List T → En → List T → Option (List T × En)
  | [], γ, acc => some (acc, γ)
  | t :: ts, γ, acc => (tg t (wipeE γ own)).bind fun γ1 => (test γ1).bind fun p => if p.1 then (elt p.2).bind fun q => if acc.length < sizeLine then compL own tg test elt ts (backE γ q.2 own) (acc ++ [q.1]) else none
      else compL own tg test elt ts (backE γ p.2 own) acc
def eComp (own : List Nat) (src : Ix) (tg : T → En → Option En) (test : Tx) (elt : Ex) : Ex := fun γ => (src γ).bind fun p => (compL own tg test elt p.1 p.2 []).map fun q => (.lst q.1, q.2)

section
variable {X : Cx} {K : PySem.W.Frag} {N N' : Nt} {G G' H H' : Hp} {σ σ' : L2.St} {γ γ' : En} {ts us : List T} {vs : List V} {t : T} {v : V}
variable {κ κ1 κ2 κb : List Bool} {rk : Bool} {pl io own L : List Nat} {pk : List Bool} {F F1 F2 : Fs} {st : Stmt} {rest body : List Stmt} {D D' : Ends} {o : Out}
variable {e a b c : Expr} {es : List Expr} {pos p apos cpos pos' : Pos} {m : Bool} {B B1 B2 M M1 M2 M3 : List Nat} {f f1 f2 f3 : Ex} {g1 g2 : Ax} {c1 c2 : Tx} {x name : Str}
theorem wipeE_len : ∀ own : List Nat, (wipeE γ own).length = γ.length
  | [] => rfl
  | i :: own => by unfold wipeE; rw [List.length_set, wipeE_len own]
theorem wipeE_some {i : Nat} : ∀ {own : List Nat}, (wipeE γ own)[i]? = some (some t) → γ[i]? = some (some t) ∧ i ∉ own
  | [], h => ⟨h, by simp⟩
  | j :: own, h => by
    unfold wipeE at h
    by_cases hi : j = i
    · subst hi
      by_cases hl : j < (wipeE γ own).length
      · rw [List.getElem?_set_self hl] at h; cases h
      · rw [List.getElem?_eq_none (by simpa using hl)] at h; cases h
    · rw [List.getElem?_set_ne hi] at h
      obtain ⟨h1, h2⟩ := wipeE_some h
      exact ⟨h1, by simp only [List.mem_cons, not_or]; exact ⟨fun e => hi e.symm, h2⟩⟩
theorem wipeE_ne {i : Nat} : ∀ {own : List Nat}, i ∉ own → (wipeE γ own)[i]? = γ[i]?
  | [], _ => rfl
  | j :: own, h => by
    unfold wipeE
    rw [List.getElem?_set_ne (fun e => h (by rw [e]; exact List.mem_cons_self)), wipeE_ne fun z => h (List.mem_cons_of_mem _ z)]
theorem wipe_ne {i : Nat} : ∀ {own : List Nat}, i ∉ own → (wipe σ own)[i]? = σ[i]?
  | [], _ => rfl
  | j :: own, h => by
    unfold wipe
    rw [List.getElem?_set_ne (fun e => h (by rw [e]; exact List.mem_cons_self)), wipe_ne fun z => h (List.mem_cons_of_mem _ z)]
theorem backE_len {γ0 : En} : ∀ own : List Nat, (backE γ0 γ own).length = γ.length
  | [] => rfl
  | i :: own => by unfold backE; rw [List.length_set, backE_len own]
theorem backE_ne {γ0 : En} {i : Nat} : ∀ {own : List Nat}, i ∉ own → (backE γ0 γ own)[i]? = γ[i]?
  | [], _ => rfl
  | j :: own, h => by
    unfold backE
    rw [List.getElem?_set_ne (fun e => h (by rw [e]; exact List.mem_cons_self)), backE_ne fun z => h (List.mem_cons_of_mem _ z)]
theorem backE_mem {γ0 : En} {i : Nat} : ∀ {own : List Nat}, i ∈ own → (backE γ0 γ own)[i]? = some (some t) → γ0[i]? = some (some t)
  | j :: own, h, h1 => by
    unfold backE at h1
    by_cases hj : j = i
    · subst hj
      by_cases hl : j < (backE γ0 γ own).length
      · rw [List.getElem?_set_self hl] at h1
        have h2 := Option.some.inj h1
        cases q : γ0[j]? with
        | none => rw [q] at h2; cases h2
        | some w => rw [q] at h2; exact congrArg some h2
      · rw [List.getElem?_eq_none (by simpa using hl)] at h1; cases h1
    · rw [List.getElem?_set_ne hj] at h1
      rcases List.mem_cons.mp h with e | h
      · exact absurd e.symm hj
      · exact backE_mem h h1
/-- less is known of the slots -/
theorem Sta.less (S : Sta K N G κ σ H γ) (hl : σ'.length = σ.length) (hl2 : γ'.length = γ.length) (w : ∀ (i : Nat) (t : T), γ'[i]? = some (some t) → γ[i]? = some (some t) ∧ σ'[i]? = σ[i]?)
    (hp : ∀ p ∈ N.pins, γ'[p.1]? = γ[p.1]? ∧ σ'[p.1]? = σ[p.1]?) : Sta K N G κ σ' H γ' := by
  refine ⟨S.le, by rw [hl, hl2]; exact S.len, fun i t k g => ?_, fun i t k g => ?_, fun i j t u a k1 k2 g1 g2 e1 e2 => ?_, by rw [hl2]; exact S.klen, fun q hq => ?_, S.frm, S.gle, S.gfr⟩
  · obtain ⟨g, e⟩ := w i t g
    rw [e]
    exact S.shr i t k g
  · obtain ⟨g, e⟩ := w i t g
    rw [e]
    exact S.own i t k g
  · obtain ⟨g1, z1⟩ := w i t g1
    obtain ⟨g2, z2⟩ := w j u g2
    rw [z1] at e1
    rw [z2] at e2
    exact S.sep i j t u a k1 k2 g1 g2 e1 e2
  · obtain ⟨h1, h2⟩ := hp q hq
    rw [h1, h2]
    exact S.pin q hq
def pinAt (κ : List Bool) (γ : En) (σ : L2.St) (i : Nat) : Option (Nat × Addr) := match κ[i]?, γ[i]?, σ[i]? with
  | some true, some (some _), some (some (V.ref a)) => some (i, a)
  | _, _, _ => none
theorem wipe_at {j : Nat} : ∀ {own : List Nat}, j ∈ own → (wipe σ own)[j]? = if j < σ.length then some none else none
  | l :: own, h => by
    unfold wipe
    by_cases hl : l = j
    · subst hl
      rw [List.getElem?_set, wipe_length]
      simp
    · rw [List.getElem?_set_ne hl]
      exact wipe_at (by rcases List.mem_cons.mp h with z | z; exact absurd z.symm hl; exact z)
theorem wipe_eq (hl : σ'.length = σ.length) (h : ∀ j : Nat, j ∉ own → σ'[j]? = σ[j]?) : wipe σ' own = wipe σ own := by
  apply List.ext_getElem?
  intro j
  by_cases hj : j ∈ own
  · rw [wipe_at hj, wipe_at hj, hl]
  · rw [wipe_ne hj, wipe_ne hj, h j hj]
theorem backE_at {γ0 : En} {j : Nat} : ∀ {own : List Nat}, j ∈ own → γ.length = γ0.length → (backE γ0 γ own)[j]? = γ0[j]?
  | l :: own, h, hl => by
    unfold backE
    by_cases hlj : l = j
    · subst hlj
      rw [List.getElem?_set, backE_len]
      by_cases hlt : l < γ0.length
      · rw [if_pos rfl, hl, if_pos hlt, List.getElem?_eq_getElem hlt]
        rfl
      · rw [if_pos rfl, hl, if_neg hlt, List.getElem?_eq_none (by omega)]
    · rw [List.getElem?_set_ne hlj]
      exact backE_at (by rcases List.mem_cons.mp h with z | z; exact absurd z.symm hlj; exact z) hl
/-- from here on: what is owned may change, all else stays -/
theorem Sta.reroot (S : Sta K N G κ σ H γ) : ∃ pins, Sta K ⟨H, G, pins⟩ G κ σ H γ ∧ (∀ p ∈ pins, κ[p.1]? = some true) ∧ (∀ p ∈ N.pins, p ∈ pins) ∧
    (∀ a, a ∈ pins.map (·.2) → N.H a = none ∨ a ∈ N.pins.map (·.2)) ∧ (∀ a, a ∈ pins.map (·.2) → G a = none ∧ H a ≠ none) := by
  refine ⟨(List.range κ.length).filterMap (pinAt κ γ σ), ?_⟩
  have mem : ∀ (i : Nat) (a : Addr), (i, a) ∈ ((List.range κ.length).filterMap (pinAt κ γ σ)) ↔ κ[i]? = some true ∧ (∃ t : T, γ[i]? = some (some t)) ∧ σ[i]? = some (some (V.ref a)) := by
    intro i a
    rw [List.mem_filterMap]
    constructor
    · rintro ⟨j, hj, e⟩
      unfold pinAt at e
      split at e
      · rename_i t b h1 h2 h3
        cases e
        exact ⟨h1, ⟨t, h2⟩, h3⟩
      · cases e
    · rintro ⟨h1, ⟨t, h2⟩, h3⟩
      refine ⟨i, List.mem_range.mpr (List.getElem?_eq_some_iff.mp h1).1, ?_⟩
      unfold pinAt
      rw [h1, h2, h3]
  have addr : ∀ a : Addr, a ∈ (((List.range κ.length).filterMap (pinAt κ γ σ)).map (·.2)) → ∃ (i : Nat) (t : T), κ[i]? = some true ∧ γ[i]? = some (some t) ∧ σ[i]? = some (some (V.ref a)) := fun a ha => by
    obtain ⟨⟨i, b⟩, hq, e⟩ := List.mem_map.mp ha
    cases e
    obtain ⟨h1, ⟨t, h2⟩, h3⟩ := (mem i b).mp hq
    exact ⟨i, t, h1, h2, h3⟩
  refine ⟨⟨S.le, S.len, S.shr, fun i t k g => ?_, S.sep, S.klen, fun q hq => (mem q.1 q.2).mp hq, fun a o h _ => h, Same.refl _, fun a h => .inl h⟩, fun q hq => ((mem q.1 q.2).mp hq).1, fun q hq => (mem q.1 q.2).mpr (S.pin q hq), fun a ha => ?_, fun a ha => ?_⟩
  · obtain ⟨a, o, e1, e2, e3, e4, e5⟩ := S.own i t k g
    refine ⟨a, o, e1, e2, e3, e4, .inr (List.mem_map.mpr ⟨(i, a), (mem i a).mpr ⟨k, ⟨t, g⟩, e1⟩, rfl⟩)⟩
  · obtain ⟨i, t, h1, h2, h3⟩ := addr a ha
    obtain ⟨a', o, e1, e2, e3, e4, e5⟩ := S.own i t h1 h2
    rw [h3] at e1
    cases e1
    exact e5
  · obtain ⟨i, t, h1, h2, h3⟩ := addr a ha
    obtain ⟨a', o, e1, e2, e3, e4, e5⟩ := S.own i t h1 h2
    rw [h3] at e1
    cases e1
    exact ⟨e2, by rw [e3]; simp⟩
/-- back to the root before -/
theorem Sta.unroot {pins : List (Nat × Addr)} (S : Sta K N G κ σ H γ) (S1 : Sta K ⟨H, G, pins⟩ G' κ σ' H' γ') (h1 : ∀ p ∈ N.pins, p ∈ pins) (h2 : ∀ a, a ∈ pins.map (·.2) → N.H a = none ∨ a ∈ N.pins.map (·.2)) : Sta K N G' κ σ' H' γ' := by
  refine ⟨S1.le, S1.len, S1.shr, fun i t k g => ?_, S1.sep, S1.klen, fun q hq => S1.pin q (h1 q hq), fun a o e n => ?_, S.gle.trans S1.gle, fun a ha => ?_⟩
  · obtain ⟨a, o, e1, e2, e3, e4, e5⟩ := S1.own i t k g
    refine ⟨a, o, e1, e2, e3, e4, ?_⟩
    rcases e5 with e5 | e5
    · exact .inl (S.fresh e5).2.1
    · exact h2 a e5
  · refine S1.frm a o (S.frm a o e n) fun hb => ?_
    rcases h2 a hb with z | z
    · rw [e] at z; cases z
    · exact n z
  · rcases S1.gfr a ha with z | z
    · exact S.gfr a z
    · exact .inr (S.fresh z).2.1
theorem Sta.wiped (S : Sta K N G κ σ H γ) (hp : ∀ j, j ∈ own → j ∉ N.pins.map (·.1)) : Sta K N G κ (wipe σ own) H (wipeE γ own) := by
  refine S.less (wipe_length σ own) (wipeE_len own) (fun i t g => ?_) fun q hq => ?_
  · obtain ⟨g, n⟩ := wipeE_some g
    exact ⟨g, wipe_ne n⟩
  · have n : q.1 ∉ own := fun z => hp _ z (List.mem_map_of_mem (f := (·.1)) hq)
    exact ⟨wipeE_ne n, wipe_ne n⟩
theorem Sta.backed (S : Sta K N' G κ σ H γ) (S1 : Sta K N G' κ σ' H' γ') (s : Same G G') (hw : wipe σ' own = wipe σ own) (hl : σ'.length = σ.length) (hk : ∀ j, j ∈ own → κ[j]? = some false) : Sta K N G' κ σ H' (backE γ γ' own) := by
  have es : ∀ i : Nat, i ∉ own → σ'[i]? = σ[i]? := fun i hi => by rw [← wipe_ne (σ := σ') hi, hw, wipe_ne hi]
  have set_of : ∀ (i : Nat) (t : T), κ[i]? = some true → (backE γ γ' own)[i]? = some (some t) → γ'[i]? = some (some t) ∧ σ'[i]? = σ[i]? := fun i t k g => by
    have n : i ∉ own := fun z => by rw [hk i z] at k; cases k
    rw [backE_ne n] at g
    exact ⟨g, es i n⟩
  refine ⟨S1.le, by rw [backE_len, S1.len, hl], fun i t k g => ?_, fun i t k g => ?_, fun i j t u a k1 k2 g1 g2 e1 e2 => ?_, by rw [backE_len]; exact S1.klen, fun q hq => ?_, S1.frm, S1.gle, S1.gfr⟩
  · by_cases hi : i ∈ own
    · obtain ⟨v, e1, e2⟩ := S.shr i t k (backE_mem hi g)
      exact ⟨v, e1, e2.mono s⟩
    · rw [backE_ne hi] at g
      rw [← es i hi]
      exact S1.shr i t k g
  · obtain ⟨g, e⟩ := set_of i t k g
    rw [← e]
    exact S1.own i t k g
  · obtain ⟨g1, z1⟩ := set_of i t k1 g1
    obtain ⟨g2, z2⟩ := set_of j u k2 g2
    rw [← z1] at e1
    rw [← z2] at e2
    exact S1.sep i j t u a k1 k2 g1 g2 e1 e2
  · obtain ⟨q1, q2, q3⟩ := S1.pin q hq
    have n : q.1 ∉ own := fun z => by rw [hk _ z] at q1; cases q1
    refine ⟨q1, ?_, by rw [← es _ n]; exact q3⟩
    rw [backE_ne n]
    exact q2
/-- the turns of a comprehension -/
theorem comp_turns {J : It} {tg : T → En → Option En} {g : TG} {test : Tx} {tt : TT} {elt : Ex} {te : TE} {items : List T} {res : List T} {γe : En} {Dd : Addr} {Qd : Hp → Prop}
    (hg : ∀ v σ H Q, cG K L κ κ tg v σ H Q → g v σ H Q) (ht : ∀ σ H Q, cT K M2 κ test σ H Q → tt σ H Q) (he : ∀ σ H Q, cE K false [] M3 κ elt σ H Q → te σ H Q)
    (hL : ∀ j : Nat, j ∈ L → j ∈ own) (hk : ∀ j : Nat, j ∈ own → κ[j]? = some false) (hB : ∀ j : Nat, j ∈ B → j ∉ M2 ∧ j ∉ M3 ∧ j ∉ own)
    (hw : Wk K κ σ γ B items G J) (hBk : ∀ j : Nat, j ∈ B → κ[j]? = some true) (S : Sta K N G κ σ H γ) (hD : H Dd = none) (ho : compL own tg test elt items γ [] = some (res, γe))
    (q2 : ∀ G' H' vs, Same G G' → Sta K N G' κ σ H' γe → Keeps (M2 ++ M3) γ γe → H' Dd = some (.lst vs) → Reps K G' res vs → G' Dd = none → (∀ (j : Nat) (u : T), κ[j]? = some true → γe[j]? = some (some u) → σ[j]? ≠ some (some (V.ref Dd))) → Qd H') :
    ∃ W : Nat → Nat → Hp → Prop, (∃ m, W 0 m (upd H Dd (.lst []))) ∧ ∀ i m H, W i m H →
      (J.stop i H ∧ Qd H) ∨ (J.go i H ∧ ∃ Nx : Hp → Prop, (∀ H', Nx H' → ∃ m', m' < m ∧ W (i + 1) m' H') ∧ ∀ x H', J.yld i H x H' → g x (wipe σ own) H' fun σ2 H2 => wipe σ2 own = wipe σ own ∧ tt σ2 H2 fun b H3 =>
        if b = true then te σ2 H3 fun y H4 => ∃ acc, H4 Dd = some (.lst acc) ∧ acc.length < sizeLine ∧ Nx (upd H4 Dd (.lst (acc ++ [y]))) else Nx H3) := by
  have S0 : Sta K N G κ σ (upd H Dd (.lst [])) γ := S.laid hD
  have hDf := S.fresh hD
  refine ⟨fun i m H1 => m + i = items.length ∧ ∃ G1 γ1 acc vs, Same G G1 ∧ Sta K N G1 κ σ H1 γ1 ∧ Keeps (M2 ++ M3) γ γ1 ∧ H1 Dd = some (.lst vs) ∧ Reps K G1 acc vs ∧ G1 Dd = none ∧ (∀ (j : Nat) (u : T), κ[j]? = some true → γ1[j]? = some (some u) → σ[j]? ≠ some (some (V.ref Dd))) ∧ compL own tg test elt (items.drop i) γ1 acc = some (res, γe),
    ⟨items.length, rfl, G, γ, [], [], Same.refl _, S0, .refl _ _, upd_same, .nil, hDf.1, fun j u k g e => ?_, by simpa using ho⟩, fun i m H1 ⟨hm, G1, γ1, acc, vs, s1, S1, k1, d1, r1, n1, u1, h1⟩ => ?_⟩
  · obtain ⟨a, o, e1, _, e3, _⟩ := S.own j u k g
    rw [e] at e1
    cases e1
    rw [hD] at e3
    cases e3
  obtain ⟨w1, w2⟩ := hw i N G1 κ σ H1 γ1 s1 S1 (fun j hj => ⟨hBk j hj, k1 j (by rw [List.mem_append, not_or]; exact ⟨(hB j hj).1, (hB j hj).2.1⟩), rfl⟩)
  by_cases hi : i < items.length
  · have hit : items[i]? = some items[i] := List.getElem?_eq_getElem hi
    obtain ⟨wg, wy⟩ := w1 _ hit
    refine .inr ⟨wg, fun H1 => (m - 1) + (i + 1) = items.length ∧ ∃ G1 γ1 acc vs, Same G G1 ∧ Sta K N G1 κ σ H1 γ1 ∧ Keeps (M2 ++ M3) γ γ1 ∧ H1 Dd = some (.lst vs) ∧ Reps K G1 acc vs ∧ G1 Dd = none ∧ (∀ (j : Nat) (u : T), κ[j]? = some true → γ1[j]? = some (some u) → σ[j]? ≠ some (some (V.ref Dd))) ∧ compL own tg test elt (items.drop (i + 1)) γ1 acc = some (res, γe),
      fun H' h => ⟨m - 1, by omega, h⟩, fun x H2 hy => ?_⟩
    obtain ⟨pins, R1, p1, p2, p3, p4⟩ := S1.reroot
    obtain ⟨_, p5⟩ := w1 _ hit
    have w1' := hw i ⟨H1, G1, pins⟩ G1 κ σ H1 γ1 s1 R1 (fun j hj => ⟨hBk j hj, k1 j (by rw [List.mem_append, not_or]; exact ⟨(hB j hj).1, (hB j hj).2.1⟩), rfl⟩)
    obtain ⟨G2, s2, R2, r2⟩ := (w1'.1 _ hit).2 x H2 hy
    have hDp : Dd ∉ pins.map (·.2) := fun hb => by
      obtain ⟨⟨j, a⟩, hq, e⟩ := List.mem_map.mp hb
      cases e
      obtain ⟨q1, ⟨u, q2⟩, q3⟩ := R1.pin _ hq
      exact u1 j u q1 q2 q3
    rw [List.drop_eq_getElem_cons hi] at h1
    unfold compL at h1
    obtain ⟨γ2, e2, h1⟩ := Option.bind_eq_some_iff.mp h1
    have nown : ∀ j, j ∈ own → j ∉ pins.map (·.1) := fun j hj hb => by
      obtain ⟨q, hq, e⟩ := List.mem_map.mp hb
      have := p1 q hq
      rw [e, hk j hj] at this
      cases this
    have R2w := R2.wiped nown
    refine hg _ _ _ _ ⟨⟨H1, G1, pins⟩, G2, wipeE γ1 own, _, γ2, fun j hj => nown j (hL j hj), R2w, r2, e2, fun σ2 R3 hσ => ?_⟩
    have l2 : σ2.length = σ.length := by
      have a1 := R2w.len
      have a2 := R3.len
      have a3 := R2w.klen
      have a4 := R3.klen
      rw [wipe_length] at a1
      omega
    have hσ2 : wipe σ2 own = wipe σ own := wipe_eq l2 fun j hj => by rw [(hσ j fun z => hj (hL j z)).1, wipe_ne hj]
    refine ⟨hσ2, ?_⟩
    · obtain ⟨⟨b, γ3⟩, e3, h1⟩ := Option.bind_eq_some_iff.mp h1
      have kw : ∀ j, j ∉ own → γ2[j]? = γ1[j]? := fun j hj => ((hσ j fun z => hj (hL j z)).2).trans (wipeE_ne hj)
      refine ht _ _ _ ⟨⟨H1, G1, pins⟩, G2, γ2, b, γ3, R3, e3, fun G3 H3 s3 R4 k3 => ?_⟩
      have dD : ∀ {G4 H4 γ4}, Sta K ⟨H1, G1, pins⟩ G4 κ σ2 H4 γ4 → H4 Dd = some (.lst vs) ∧ G4 Dd = none := fun {G4 H4 γ4} R => by
        refine ⟨R.frm Dd _ d1 hDp, ?_⟩
        cases z : G4 Dd with
        | none => rfl
        | some o =>
          rcases R.gfr Dd (by rw [z]; simp) with y | y
          · exact absurd n1 y
          · have y' : H1 Dd = none := y
            rw [d1] at y'
            cases y'
      have nD : ∀ {G4 H4 γ4}, Sta K ⟨H1, G1, pins⟩ G4 κ σ H4 γ4 → ∀ (j : Nat) (u : T), κ[j]? = some true → γ4[j]? = some (some u) → σ[j]? ≠ some (some (V.ref Dd)) := fun {G4 H4 γ4} R j u k g e => by
        obtain ⟨a, o, q1, _, _, _, q5⟩ := R.own j u k g
        rw [e] at q1
        cases q1
        rcases q5 with q5 | q5
        · have y' : H1 Dd = none := q5
          rw [d1] at y'
          cases y'
        · exact hDp q5
      have step : ∀ {G4 H4 γ4}, Same G1 G4 → Sta K ⟨H1, G1, pins⟩ G4 κ σ2 H4 γ4 → Sta K ⟨H1, G1, pins⟩ G4 κ σ H4 (backE γ1 γ4 own) := fun {G4 H4 γ4} s R =>
        Sta.backed R1 R s hσ2 l2 hk
      cases b with
      | false =>
        dsimp only at h1 ⊢
        rw [if_neg Bool.false_ne_true] at h1 ⊢
        obtain ⟨y1, y2⟩ := dD R4
        have R5 := step (s2.trans s3) R4
        refine ⟨by omega, G3, _, acc, vs, (s1.trans s2).trans s3, S1.unroot R5 p2 p3, fun j hj => ?_, y1, r1.mono (s2.trans s3), y2, nD R5, h1⟩
        rw [List.mem_append, not_or] at hj
        have l3 : γ3.length = γ1.length := by
          have a1 := R4.klen
          have a2 := R1.klen
          omega
        by_cases hjo : j ∈ own
        · rw [backE_at hjo l3]
          exact k1 j (by rw [List.mem_append, not_or]; exact hj)
        · rw [backE_ne hjo, k3 j hj.1, kw j hjo]
          exact k1 j (by rw [List.mem_append, not_or]; exact hj)
      | true =>
        dsimp only at h1 ⊢
        rw [if_pos rfl] at h1 ⊢
        obtain ⟨⟨y, γ4⟩, e4, h1⟩ := Option.bind_eq_some_iff.mp h1
        refine he _ _ _ ⟨⟨H1, G1, pins⟩, G3, γ3, y, γ4, R4, e4, fun v G4 H4 s4 R5 k4 ry => ?_⟩
        split at h1
        · rename_i hz
          obtain ⟨y1, y2⟩ := dD R5
          have R6 := step ((s2.trans s3).trans s4) R5
          refine ⟨vs, y1, by rw [r1.length]; exact hz, by omega, G4, _, acc ++ [y], vs ++ [v], ((s1.trans s2).trans s3).trans s4, ?_, fun j hj => ?_, upd_same, (r1.mono ((s2.trans s3).trans s4)).append (.cons ry.rdy.rep .nil), y2, nD R6, h1⟩
          · have S6 := S1.unroot R6 p2 p3
            -- D is nobody's
            refine ⟨fun b x e => ?_, S6.len, S6.shr, fun j u k g => ?_, S6.sep, S6.klen, S6.pin, fun b x e n => ?_, S6.gle, S6.gfr⟩
            · rw [upd_ne (fun z => by rw [z, y2] at e; cases e)]
              exact S6.le b x e
            · obtain ⟨a, ob, q1, q2, q3, q4⟩ := S6.own j u k g
              refine ⟨a, ob, q1, q2, ?_, q4⟩
              rw [upd_ne]
              · exact q3
              · rintro rfl; exact nD R6 j u k g q1
            · rw [upd_ne]
              · exact S6.frm b x e n
              · rintro rfl; rw [hDf.2.1] at e; cases e
          · rw [List.mem_append, not_or] at hj
            have l3 : γ4.length = γ1.length := by
              have a1 := R5.klen
              have a2 := R1.klen
              omega
            by_cases hjo : j ∈ own
            · rw [backE_at hjo l3]
              exact k1 j (by rw [List.mem_append, not_or]; exact hj)
            · rw [backE_ne hjo, k4 j hj.2, k3 j hj.1, kw j hjo]
              exact k1 j (by rw [List.mem_append, not_or]; exact hj)
        · cases h1
  · refine .inl ⟨w2 (by omega), ?_⟩
    rw [List.drop_eq_nil_of_le (by omega)] at h1
    cases h1
    exact q2 G1 H1 vs s1 S1 k1 d1 r1 n1 u1

abbrev STs (X : Cx) (ifs : List Expr) (M : List Nat) (κ : List Bool) (f : Tx) : Prop := PTs X ifs (cT X.K M κ f)
theorem PTs.weak {X : Cx} {e : List Expr} {t t' : TT} (h : PTs X e t) (w : ∀ σ H Q, t' σ H Q → t σ H Q) : PTs X e t' := ⟨fun pins s σ H Q I q => h.run pins s σ H Q I (w σ H Q q)⟩
theorem sts_nil : STs X [] [] κ tYesT := PTs.weak pts_nil fun σ H Q ⟨N, G, γ, r, γ', S, e, q⟩ => by
  cases e
  exact q G H (Same.refl _) S (.refl _ _)
theorem sts_one (h : ST X c M κ c1) : STs X [c] M κ c1 := PTs.weak (pts_one h) fun σ H Q q => q
theorem lc_of {wi : TI} {g : TG} {tt : TT} {te : TE} {tg : T → En → Option En} {test : Tx} {elt : Ex} {src : Ix} {M : List Nat}
    (hi : ∀ σ H R, cI K B M κ src σ H R → wi σ H R) (hg : ∀ v σ H Q, cG K L κ κ tg v σ H Q → g v σ H Q) (ht : ∀ σ H Q, cT K M2 κ test σ H Q → tt σ H Q) (he : ∀ σ H Q, cE K false [] M3 κ elt σ H Q → te σ H Q)
    (hL : ∀ j : Nat, j ∈ L → j ∈ own) (hk : ∀ j : Nat, j ∈ own → κ[j]? = some false) (hB : ∀ j : Nat, j ∈ B → j ∉ M2 ∧ j ∉ M3 ∧ j ∉ own) (hBk : ∀ j : Nat, j ∈ B → κ[j]? = some true) :
    ∀ σ H Q, cE K true [] (M ++ (M2 ++ M3)) κ (eComp own src tg test elt) σ H Q → tLc wi g tt te own σ H Q := by
  intro σ H Q ⟨N, G, γ, r, γ', S, ef, q⟩
  unfold eComp at ef
  obtain ⟨⟨items, γ1⟩, e1, ef⟩ := Option.bind_eq_some_iff.mp ef
  obtain ⟨⟨res, γe⟩, e2, ef⟩ := Option.map_eq_some_iff.mp ef
  cases ef
  refine hi _ _ _ ⟨N, G, γ, items, γ1, S, e1, fun J G1 H1 s1 S1 k1 w1 Dd hD => ?_⟩
  refine comp_turns hg ht he hL hk hB w1 hBk S1 hD e2 fun G' H' vs s2 S2 k2 d2 r2 n2 u2 => ?_
  refine q _ G' H' (s1.trans s2) S2 (k1.trans k2) (.new ⟨Dd, _, rfl, n2, d2, ⟨vs, rfl, r2⟩, (S1.fresh hD).2.1, u2⟩)
theorem sx_lc {elt tge iter : Expr} {ifs : List Expr} {scope : Scope} {own' : List (Str × Nat)} {tg : T → En → Option En} {test : Tx} {el : Ex} {src : Ix} {M : List Nat} (hc : X.calm = true) (hN : X.N.Nodup) (hi : SI X tge iter B M κ src) (ok : BlkOk X.N X.env.scope scope own')
    (hg : ∀ (s : Shared) (H : Hp) (C : Addr) (cl : List (Str × Addr)) (fp : List Addr), SG (X.blk s H scope (compEnvC scope cl C X.env) fp) tge L κ κ tg) (ht : ∀ (s : Shared) (H : Hp) (C : Addr) (cl : List (Str × Addr)) (fp : List Addr), STs (X.blk s H scope (compEnvC scope cl C X.env) fp) ifs M2 κ test)
    (he : ∀ (s : Shared) (H : Hp) (C : Addr) (cl : List (Str × Addr)) (fp : List Addr), SX (X.blk s H scope (compEnvC scope cl C X.env) fp) elt false [] M3 κ el)
    (hL : ∀ j, j ∈ L → j ∈ own'.map (·.2) := by decide) (hk : ∀ j, j ∈ own'.map (·.2) → κ[j]? = some false := by decide) (hB : ∀ j, j ∈ B → j ∉ M2 ∧ j ∉ M3 ∧ j ∉ own'.map (·.2) := by decide) (hBk : ∀ j, j ∈ B → κ[j]? = some true := by decide) (hs : ∀ x, foldedSetIterable iter X.env x = pure x := by intro _; rfl) :
    SX X (.ListComp elt [⟨tge, iter, ifs, 0⟩] scope pos) true [] (M ++ (M2 ++ M3)) κ (eComp (own'.map (·.2)) src tg test el) :=
  PE.weak (pe_lc hc hN hi ok hg ht he hs) (lc_of (fun _ _ _ h => h) (fun _ _ _ _ h => h) (fun _ _ _ h => h) (fun _ _ _ h => h) hL hk hB hBk)
/-- name = [..] on one line -/
theorem ss_setLc (i : Nat) {y : Str} {py : Pos} {elt tge iter : Expr} {ifs : List Expr} {scope : Scope} {own' : List (Str × Nat)} {tg : T → En → Option En} {test : Tx} {el : Ex} {src : Ix} {M : List Nat} {spos : Pos} (k : Bool) (hc : X.calm = true) (hN : X.N.Nodup) (hi : SI X tge iter B M κ src) (ok : BlkOk X.N X.env.scope scope own')
    (hg : ∀ (s : Shared) (H : Hp) (C : Addr) (cl : List (Str × Addr)) (fp : List Addr), SG (X.blk s H scope (compEnvC scope cl C X.env) fp) tge L κ κ tg) (ht : ∀ (s : Shared) (H : Hp) (C : Addr) (cl : List (Str × Addr)) (fp : List Addr), STs (X.blk s H scope (compEnvC scope cl C X.env) fp) ifs M2 κ test)
    (he : ∀ (s : Shared) (H : Hp) (C : Addr) (cl : List (Str × Addr)) (fp : List Addr), SX (X.blk s H scope (compEnvC scope cl C X.env) fp) elt false [] M3 κ el)
    (hsw : swapsWith (.ListComp elt [⟨tge, iter, ifs, 0⟩] scope pos) (some (.Name y py)) spos.line X.env = pure true) (hy : X.N[i]? = some y := by rfl) (hyl : X.env.scope.names.lookup y = some .local := by rfl) (hkl : i < κ.length := by decide) (hp : i ∉ pl := by decide)
    (hL : ∀ j, j ∈ L → j ∈ own'.map (·.2) := by decide) (hk : ∀ j, j ∈ own'.map (·.2) → κ[j]? = some false := by decide) (hB : ∀ j, j ∈ B → j ∉ M2 ∧ j ∉ M3 ∧ j ∉ own'.map (·.2) := by decide) (hBk : ∀ j, j ∈ B → κ[j]? = some true := by decide) (hs : ∀ x, foldedSetIterable iter X.env x = pure x := by intro _; rfl) :
    SS X (.Assign [.Name y py] (.ListComp elt [⟨tge, iter, ifs, 0⟩] scope pos) spos) κ (κ.set i k) κb rk pl (sAsg i (eComp (own'.map (·.2)) src tg test el)) :=
  PS.weak (ps_setLc hc hN hy hyl hsw hi ok hg ht he hs) fun D σ H ⟨N, G, γ, o, hp', S, ef, q⟩ => by
  unfold sAsg at ef
  obtain ⟨⟨t1, γ1⟩, e1, ef⟩ := Option.map_eq_some_iff.mp ef
  cases ef
  refine lc_of (M := M) (fun _ _ _ h => h) (fun _ _ _ _ h => h) (fun _ _ _ h => h) (fun _ _ _ h => h) hL hk hB hBk σ H _ ⟨N, G, γ, t1, γ1, S, e1, fun v G1 H1 s1 S1 k1 r1 => ?_⟩
  cases k with
  | true => exact q _ H1 G1 s1 (S1.storeO (len_of S1 hkl) (hp' ▸ hp) r1.fre)
  | false =>
    obtain ⟨G2, s2, S2, rp⟩ := r1.fre.lasts S1
    exact q _ H1 G2 (s1.trans s2) (S2.store (len_of S2 hkl) (hp' ▸ hp) rp)
end
end Tw

namespace Tw
open PySem PySem.Spec PyProof.Rows L2

/-! ### methods that change an owned slot -/
def MutT (K : PySem.W.Frag) (r : V → List V → Hp → VK → Prop) (g : T → List T → Option (T × T)) : Prop :=
  ∀ (N : Nt) (G : Hp) (κ : List Bool) (σ : L2.St) (H : Hp) (γ : En) (ts : List T) (xs : List V) (a : Addr) (o : HO) (t res t' : T), Sta K N G κ σ H γ → Reps K G ts xs → H a = some o → Ho K G o t → g t ts = some (res, t') →
    ∀ Q : VK, (∀ v o', Ho K G o' t' → Rep K G res v → Q v (upd H a o')) → r (.ref a) xs H Q
def isL : T → Bool
  | .lst _ => true
  | _ => false
def isDc : T → Bool
  | .dct _ _ => true
  | _ => false
def eMut (i : Nat) (k : T → Bool) (g : T → List T → Option (T × T)) (a : Ax) : Ex := fun γ => match γ[i]? with
  | some (some t0) => if k t0 then (a γ).bind fun p => match p.2[i]? with
    | some (some t) => (g t p.1).map fun q => (q.1, p.2.set i (some q.2))
    | _ => none else none
  | _ => none

section
variable {X : Cx} {K : PySem.W.Frag} {N N' : Nt} {G G' H H' : Hp} {σ σ' : L2.St} {γ γ' : En} {ts us : List T} {vs : List V} {t u : T} {v : V}
variable {κ κ1 κ2 κb : List Bool} {rk : Bool} {pl io own L : List Nat} {pk : List Bool} {F F1 F2 : Fs} {st : Stmt} {rest body : List Stmt} {D D' : Ends} {o : Out}
variable {e a b c : Expr} {es : List Expr} {pos p q apos cpos pos' : Pos} {m : Bool} {B B1 B2 M M1 M2 M3 : List Nat} {f f1 f2 f3 : Ex} {g1 g2 : Ax} {c1 c2 : Tx} {x name : Str} {id T' : String}
/-- an owned slot's object has changed -/
theorem Sta.changed {i : Nat} {ad : Addr} {o' : HO} (S : Sta K N G κ σ H γ) (hk : κ[i]? = some true) (hg : γ[i]? = some (some t)) (hs : σ[i]? = some (some (.ref ad))) (ho : Ho K G o' u) :
    Sta K N G κ σ (upd H ad o') (γ.set i (some u)) := by
  have hi : i < γ.length := (List.getElem?_eq_some_iff.mp hg).1
  obtain ⟨a', ob, e1, e2, e3, e4, e5⟩ := S.own i t hk hg
  rw [hs] at e1
  cases e1
  have gs : ∀ (j : Nat) (w : T), (γ.set i (some u))[j]? = some (some w) → ∃ w', γ[j]? = some (some w') := fun j w h => by
    by_cases z : i = j
    · subst z; exact ⟨t, hg⟩
    · rw [List.getElem?_set_ne z] at h; exact ⟨w, h⟩
  refine ⟨fun b x h => ?_, by rw [List.length_set]; exact S.len, fun j w k g => ?_, fun j w k g => ?_, fun j l w z b k1 k2 g1 g2 q1 q2 => ?_, by rw [List.length_set]; exact S.klen, fun q hq => ?_, fun b x h n => ?_, S.gle, S.gfr⟩
  · rw [upd_ne (fun z => by rw [z, e2] at h; cases h)]
    exact S.le b x h
  · have z : i ≠ j := fun z => by rw [← z, hk] at k; cases k
    rw [List.getElem?_set_ne z] at g
    exact S.shr j w k g
  · by_cases z : i = j
    · subst z
      rw [List.getElem?_set_self hi] at g
      cases g
      exact ⟨ad, o', hs, e2, upd_same, ho, e5⟩
    · rw [List.getElem?_set_ne z] at g
      obtain ⟨b, ob', q1, q2, q3, q4, q5⟩ := S.own j w k g
      refine ⟨b, ob', q1, q2, ?_, q4, q5⟩
      rw [upd_ne]
      · exact q3
      · rintro rfl
        exact z (S.sep i j t w _ hk k hg g hs q1)
  · obtain ⟨w', g1⟩ := gs j w g1
    obtain ⟨z', g2⟩ := gs l z g2
    exact S.sep j l w' z' b k1 k2 g1 g2 q1 q2
  · obtain ⟨q1, ⟨w, q2⟩, q3⟩ := S.pin q hq
    refine ⟨q1, ?_, q3⟩
    by_cases z : i = q.1
    · exact ⟨u, by rw [← z, List.getElem?_set_self hi]⟩
    · exact ⟨w, by rw [List.getElem?_set_ne z]; exact q2⟩
  · rw [upd_ne]
    · exact S.frm b x h n
    · rintro rfl
      rcases e5 with e5 | e5
      · rw [h] at e5; cases e5
      · exact n e5
theorem tyL {G H : Hp} {a : Addr} {o : HO} {t : T} (h : Ho K G o t) (e : H a = some o) (k : isL t = true) : tyV K "list" (.ref a) H := by
  cases t with
  | lst ts => obtain ⟨vs, rfl, _⟩ := h; exact .inl ⟨rfl, vs, .inl (.inl e)⟩
  | _ => cases k
theorem tyD {G H : Hp} {a : Addr} {o : HO} {t : T} (h : Ho K G o t) (e : H a = some o) (k : isDc t = true) : tyV K "dict" (.ref a) H := by
  cases t with
  | dct ks ts =>
    rcases h with ⟨kvs, rfl, _⟩ | ⟨kvs, rfl, _⟩
    · exact .inr (.inr (.inl ⟨rfl, .inl ⟨kvs, e⟩⟩))
    · exact .inr (.inr (.inl ⟨rfl, .inr ⟨kvs, e⟩⟩))
  | _ => cases k
theorem mut_of (i : Nat) {r : V → List V → Hp → VK → Prop} {g : T → List T → Option (T × T)} {kd : T → Bool} (hg : MutT K r g) (hT : ∀ (G H : Hp) (a : Addr) (o : HO) (t : T), Ho K G o t → H a = some o → kd t = true → tyV K T' (.ref a) H)
    (hk : κ[i]? = some true) : ∀ σ H Q, cE K false [] (M ++ [i]) κ (eMut i kd g g1) σ H Q → tBM K T' r (tVar i) (cA K [] M κ g1) σ H Q := fun σ H Q ⟨N, G, γ, r, γ', S, ef, q⟩ => by
  unfold eMut at ef
  split at ef
  case h_2 => cases ef
  rename_i t0 h0
  split at ef
  case isFalse => cases ef
  rename_i hkd
  obtain ⟨⟨t1, γ1⟩, e1, ef⟩ := Option.bind_eq_some_iff.mp ef
  dsimp only at ef
  split at ef
  case h_2 => cases ef
  rename_i t2 h2
  obtain ⟨⟨res, t3⟩, e3, ef⟩ := Option.map_eq_some_iff.mp ef
  cases ef
  obtain ⟨a, o, s1, s2, s3, s4, s5⟩ := S.own i t0 hk h0
  refine ⟨_, s1, hT G H a o t0 s4 s3 hkd, N, G, γ, t1, γ1, S, e1, fun vs G1 H1 z1 S1 k1 r1 => ?_⟩
  obtain ⟨a', o', w1, w2, w3, w4, w5⟩ := S1.own i t2 hk h2
  rw [s1] at w1
  cases w1
  refine hg N G1 κ σ H1 γ1 t1 vs a o' t2 _ _ S1 r1.reps w3 w4 e3 Q fun v o2 ho hr => ?_
  refine q v G1 _ z1 (S1.changed hk h2 s1 ho) (fun j hj => ?_) (.old hr)
  rw [List.mem_append, not_or] at hj
  rw [List.getElem?_set_ne (fun z => hj.2 (by simp [z]))]
  exact k1 j hj.1
theorem sx_mut (i : Nat) {r : V → List V → Hp → VK → Prop} {g : T → List T → Option (T × T)} {kd : T → Bool} (pa : PlainAttrs T') (slot : Slot T' name id) (hty : typeOf (.builtin id) = pure (.type "method_descriptor")) (hm : MtR X id r) (hg : MutT X.K r g)
    (hT : ∀ (G H : Hp) (a : Addr) (o : HO) (t : T), Ho X.K G o t → H a = some o → kd t = true → tyV X.K T' (.ref a) H) (ha : SA X (e :: es) [] M κ g1) (hk : κ[i]? = some true := by rfl)
    (hN : X.N[i]? = some x := by rfl) (hv : Vis X.env.scope x := by first | exact Or.inl rfl | exact Or.inr (Or.inl rfl) | exact Or.inr (Or.inr rfl))
    (hd : (x == ("__debug__" : Str)) = false := by decide) (hcd : (x == ("__classdict__" : Str)) = false := by decide)
    (hbase : attributeBase (.Name x p) name X.env (eval (.Name x p) X.env) = eval (.Name x p) X.env := by rfl)
    (hfew : ((backTo cpos (starEach (e :: es) X.env)).all (fun x => !x.1) && (backToKw cpos (keywordEach [] X.env)).all (fun x => x.1.isSome)
      && decide ((e :: es).length + ([] : List Keyword).length + (if ([] : List Keyword).isEmpty then 0 else 1) < 30)) = true := by rfl)
    (hline : (apos.endLine == cpos.line) = true := by rfl) (hs : starEach (e :: es) X.env = (false, eval e X.env) :: starEach es X.env := by rfl) (hplain : (backTo cpos (starEach es X.env)).any (·.1) = false := by rfl) :
    SX X (.Call (.Attribute (.Name x p) name apos) (e :: es) [] cpos) false [] (M ++ [i]) κ (eMut i kd g g1) :=
  PE.weak (pe_bm pa slot hty hm (pe_var hN hv hd hcd) ha hbase hfew hline hs hplain) (mut_of i hg hT hk)
theorem sx_mut0 (i : Nat) {r : V → List V → Hp → VK → Prop} {g : T → List T → Option (T × T)} {kd : T → Bool} (pa : PlainAttrs T') (slot : Slot T' name id) (hty : typeOf (.builtin id) = pure (.type "method_descriptor")) (hm : MtR X id r) (hg : MutT X.K r g)
    (hT : ∀ (G H : Hp) (a : Addr) (o : HO) (t : T), Ho X.K G o t → H a = some o → kd t = true → tyV X.K T' (.ref a) H) (hk : κ[i]? = some true := by rfl)
    (hN : X.N[i]? = some x := by rfl) (hv : Vis X.env.scope x := by first | exact Or.inl rfl | exact Or.inr (Or.inl rfl) | exact Or.inr (Or.inr rfl))
    (hd : (x == ("__debug__" : Str)) = false := by decide) (hcd : (x == ("__classdict__" : Str)) = false := by decide)
    (hbase : attributeBase (.Name x p) name X.env (eval (.Name x p) X.env) = eval (.Name x p) X.env := by rfl) (hline : (apos.endLine == cpos.line) = true := by rfl) :
    SX X (.Call (.Attribute (.Name x p) name apos) [] [] cpos) false [] ([] ++ [i]) κ (eMut i kd g aNil) :=
  PE.weak (pe_bm0 pa slot hty hm (pe_var hN hv hd hcd) hbase hline) fun σ H Q h => by
  have h2 := mut_of i hg hT hk σ H Q h
  obtain ⟨v, h3, h4, N, G, γ, r, γ', S, e, q⟩ := h2
  cases e
  exact ⟨v, h3, h4, q [] G H (Same.refl _) S (.refl _ _) .nil⟩
/-! the methods -/
def gApp : T → List T → Option (T × T)
  | .lst ts, [u] => if ts.length < sizeLine then some (.non, .lst (ts ++ [u])) else none
  | _, _ => none
theorem mu_app : MutT K rAppend gApp := by
  intro N G κ σ H γ ts xs a o t res t' S r ha ho e Q q
  unfold gApp at e
  split at e
  · split at e <;> cases e
    rename_i ts u hz
    obtain ⟨vs, rfl, r1⟩ := ho
    unfold Reps at r
    obtain ⟨v, w, rfl, r2, r3⟩ := r
    unfold Reps at r3
    subst r3
    exact ⟨a, vs, v, rfl, rfl, ha, by rw [r1.length]; exact hz, q _ _ ⟨_, rfl, r1.append (.cons r2 .nil)⟩ .non⟩
  · cases e
def gPop : T → List T → Option (T × T)
  | .lst ts, [] => (ts[ts.length - 1]?).map fun u => (u, .lst ts.dropLast)
  | _, _ => none
theorem mu_pop : MutT K rPop gPop := by
  intro N G κ σ H γ ts xs a o t res t' S r ha ho e Q q
  unfold gPop at e
  split at e
  · rename_i ts
    obtain ⟨u, h1, h2⟩ := Option.map_eq_some_iff.mp e
    cases h2
    obtain ⟨vs, rfl, r1⟩ := ho
    unfold Reps at r
    subst r
    obtain ⟨v, h3, h4⟩ := r1.get h1
    exact ⟨a, vs, v, rfl, rfl, ha, by rw [r1.length]; exact h3, q _ _ ⟨_, rfl, r1.dropLast⟩ h4⟩
  · cases e
def gPopAt : T → List T → Option (T × T)
  | .lst ts, [.int i] => if -(2 ^ 63) ≤ i ∧ i < 2 ^ 63 then (ixN ts.length i).bind fun k => (ts[k]?).map fun u => (u, .lst (ts.eraseIdx k)) else none
  | _, _ => none
theorem mu_popAt : MutT K rPopAt gPopAt := by
  intro N G κ σ H γ ts xs a o t res t' S r ha ho e Q q
  unfold gPopAt at e
  split at e
  · split at e
    · rename_i ts i hz
      obtain ⟨k, h0, e⟩ := Option.bind_eq_some_iff.mp e
      obtain ⟨u, h1, h2⟩ := Option.map_eq_some_iff.mp e
      cases h2
      obtain ⟨vs, rfl, r1⟩ := ho
      unfold Reps at r
      obtain ⟨v, w, rfl, r2, r3⟩ := r
      unfold Reps at r3
      subst r3
      unfold Rep at r2
      subst r2
      obtain ⟨v, h3, h4⟩ := r1.get h1
      exact ⟨a, vs, i, k, v, rfl, rfl, ha, hz.1, hz.2, by rw [r1.length]; exact (ixN_seq h0).1, h3, q _ _ ⟨_, rfl, r1.erase k⟩ h4⟩
    · cases e
  · cases e
def gExt : T → List T → Option (T × T)
  | .lst ts, [.lst us] => if ts.length + us.length ≤ sizeLine then some (.non, .lst (ts ++ us)) else none
  | _, _ => none
theorem mu_ext : MutT K rExtend gExt := by
  intro N G κ σ H γ ts xs a o t res t' S r ha ho e Q q
  unfold gExt at e
  split at e
  · split at e <;> cases e
    rename_i ts us hz
    obtain ⟨vs, rfl, r1⟩ := ho
    unfold Reps at r
    obtain ⟨v, w, rfl, r2, r3⟩ := r
    unfold Reps at r3
    subst r3
    unfold Rep at r2
    obtain ⟨b, ws, rfl, h1, r4⟩ := r2
    exact ⟨a, b, vs, ws, rfl, rfl, ha, S.le _ _ h1, by rw [r1.length, r4.length]; exact hz, q _ _ ⟨_, rfl, r1.append r4⟩ .non⟩
  · cases e

/-! ### stores at an index -/
def sSetI (i : Nat) (fv fi : Ex) : Fs := fun γ => (fv γ).bind fun p => match p.2[i]? with
  | some (some _) => (fi p.2).bind fun q => match q.2[i]?, q.1 with
    | some (some (.lst ts)), .int k => (ixN ts.length k).map fun j => .nx (q.2.set i (some (.lst (ts.set j p.1))))
    | _, _ => none
  | _ => none
theorem ss_setI (i : Nat) {tpos : Pos} (hv : SX X e false [] M1 κ f1) (hi : SX X b false [] M2 κ f2) (hk : κ[i]? = some true := by rfl)
    (hN : X.N[i]? = some x := by rfl) (hvis : Vis X.env.scope x := by first | exact Or.inl rfl | exact Or.inr (Or.inl rfl) | exact Or.inr (Or.inr rfl))
    (hd : (x == ("__debug__" : Str)) = false := by decide) (hcd : (x == ("__classdict__" : Str)) = false := by decide)
    (hs : swapsWithSole [.Subscript (.Name x p) b tpos] e pos.line X.env = pure false := by rfl) (hw : swappedStores [.Subscript (.Name x p) b tpos] e X.env = pure none := by rfl)
    (h1 : (assignEach [.Subscript (.Name x p) b tpos] X.env).map (·.2) = [assign (.Subscript (.Name x p) b tpos) X.env] := by rfl)
    (ha : ∀ v, assign (.Subscript (.Name x p) b tpos) X.env v = (do
      let ov ← holding [v] (eval (.Name x p) X.env)
      let iv ← holding [v, ov] (eval b X.env)
      standAt tpos
      holding [v, ov, iv] (setItem ov iv v)
      release [v, ov, iv] []) := by intro _; rfl) :
    SS X (.Assign [.Subscript (.Name x p) b tpos] e pos) κ κ κb rk pl (sSetI i f1 f2) :=
  PS.weak (ps_asg hv (pg_sub (pe_var hN hvis hd hcd) hi set_list ha) hs hw h1) fun D σ H ⟨N, G, γ, o, hp', S, ef, q⟩ => by
  unfold sSetI at ef
  obtain ⟨⟨t1, γ1⟩, e1, ef⟩ := Option.bind_eq_some_iff.mp ef
  dsimp only at ef
  split at ef
  case h_2 => cases ef
  rename_i t0 h0
  obtain ⟨⟨t2, γ2⟩, e2, ef⟩ := Option.bind_eq_some_iff.mp ef
  dsimp only at ef
  split at ef
  case h_2 => cases ef
  rename_i ts k h2
  obtain ⟨j, e3, ef⟩ := Option.map_eq_some_iff.mp ef
  cases ef
  refine ⟨N, G, γ, t1, γ1, S, e1, fun v1 G1 H1 s1 S1 k1 r1 => ?_⟩
  obtain ⟨a, ob, w1, w2, w3, w4, w5⟩ := S1.own i t0 hk h0
  refine ⟨_, w1, N, G1, γ1, _, γ2, S1, e2, fun v2 G2 H2 s2 S2 k2 r2 => ?_⟩
  obtain ⟨a', ob', z1, z2, z3, ⟨vs, rfl, z4⟩, z5⟩ := S2.own i _ hk h2
  rw [w1] at z1
  cases z1
  exact ⟨a, vs, k, j, rfl, r2.rdy.int S2, z3, by rw [z4.length]; exact e3, q _ _ G2 (s1.trans s2) (S2.changed hk h2 w1 ⟨_, rfl, z4.set j (r1.rdy.rep.mono s2)⟩)⟩

/-! ### targets of several names -/
abbrev TgT := List T → En → Option En
def tgNil : TgT := fun ts γ => match ts with
  | [] => some γ
  | _ => none
def tgCons (g : T → En → Option En) (h : TgT) : TgT := fun ts γ => match ts with
  | t :: r => (g t γ).bind fun γ1 => h r γ1
  | _ => none
/-- a tuple or a list -/
def tgSeq (n : Nat) (h : TgT) : T → En → Option En := fun t γ => match t with
  | .tup ts => if ts.length = n then h ts γ else none
  | .lst ts => if ts.length = n then h ts γ else none
  | _ => none
def cGs (K : PySem.W.Frag) (L : List Nat) (κ κ' : List Bool) (tg : TgT) : TGs := fun vs σ H Q => ∃ N G γ ts γ', (∀ j : Nat, j ∈ L → j ∉ N.pins.map (·.1)) ∧ Sta K N G κ σ H γ ∧ Reps K G ts vs ∧ tg ts γ = some γ' ∧
  ∀ σ', Sta K N G κ' σ' H γ' → (∀ j : Nat, j ∉ L → σ'[j]? = σ[j]? ∧ γ'[j]? = γ[j]?) → Q σ' H
abbrev SGs (X : Cx) (es : List Expr) (L : List Nat) (κ κ' : List Bool) (tg : TgT) : Prop := PGs X es (cGs X.K L κ κ' tg)
theorem PGs.weak {X : Cx} {e : List Expr} {t t' : TGs} (h : PGs X e t) (w : ∀ v σ H Q, t' v σ H Q → t v σ H Q) : PGs X e t' := ⟨fun pins s σ H v u Q I r q => h.run pins s σ H v u Q I r (w v σ H Q q)⟩
theorem PG.or {X : Cx} {e : Expr} {t t' : TG} (h : PG X e t) (h' : PG X e t') : PG X e (fun v σ H Q => t v σ H Q ∨ t' v σ H Q) := ⟨fun pins s σ H v u Q I r q => q.elim (h.run pins s σ H v u Q I r) (h'.run pins s σ H v u Q I r)⟩
theorem sgs_nil : SGs X [] [] κ κ tgNil := PGs.weak pgs_nil fun vs σ H Q ⟨N, G, γ, ts, γ', hp, S, r, e, q⟩ => by
  unfold tgNil at e
  split at e <;> cases e
  unfold Reps at r
  exact ⟨r, q σ S fun _ _ => ⟨rfl, rfl⟩⟩
theorem sgs_cons {tg : T → En → Option En} {tgs : TgT} {L1 L2 : List Nat} (h1 : SG X e L1 κ κ1 tg) (h2 : SGs X es L2 κ1 κ2 tgs) (hs : (assignEach (e :: es) X.env).map (·.2) = assign e X.env :: (assignEach es X.env).map (·.2) := by rfl) : SGs X (e :: es) (L1 ++ L2) κ κ2 (tgCons tg tgs) :=
  PGs.weak (pgs_cons h1 h2 hs) fun vs σ H Q ⟨N, G, γ, ts, γ', hp, S, r, e, q⟩ => by
  unfold tgCons at e
  split at e
  case h_2 => cases e
  rename_i t rest
  obtain ⟨γ1, e1, e⟩ := Option.bind_eq_some_iff.mp e
  unfold Reps at r
  obtain ⟨v, w, rfl, r1, r2⟩ := r
  refine ⟨v, w, rfl, N, G, γ, t, γ1, fun j hj => hp j (List.mem_append_left _ hj), S, r1, e1, fun σ1 S1 k1 => ?_⟩
  refine ⟨N, G, γ1, rest, γ', fun j hj => hp j (List.mem_append_right _ hj), S1, r2, e, fun σ2 S2 k2 => q σ2 S2 fun j hj => ?_⟩
  rw [List.mem_append, not_or] at hj
  exact ⟨((k2 j hj.2).1).trans (k1 j hj.1).1, ((k2 j hj.2).2).trans (k1 j hj.1).2⟩
theorem sg_seq {tgs : TgT} {k n : Nat} (hc : X.calm = true) (h : SGs X es L κ κ1 tgs) (hn : (assignEach es X.env).length = n := by rfl) (hst : (assignEach es X.env).findIdx? (·.1) = none := by rfl) : SG X (.Tuple es k pos) L κ κ1 (tgSeq n tgs) :=
  PG.weak (PG.or (pg_tup hc h hn hst) (pg_unl hc h hn hst)) fun v σ H Q ⟨N, G, γ, t, γ', hp, S, r, e, q⟩ => by
  unfold tgSeq at e
  split at e
  · split at e
    · rename_i ts hl
      unfold Rep at r
      obtain ⟨a, vs, rfl, h1, h2⟩ := r
      exact .inl ⟨a, vs, rfl, Same.tup S.le h1, by rw [h2.length]; exact hl, N, G, γ, ts, γ', hp, S, h2, e, q⟩
    · cases e
  · split at e
    · rename_i ts hl
      unfold Rep at r
      obtain ⟨a, vs, rfl, h1, h2⟩ := r
      exact .inr ⟨a, vs, rfl, .inl (.inl (S.le _ _ h1)), by rw [h2.length]; exact hl, N, G, γ, ts, γ', hp, S, h2, e, q⟩
    · cases e
  · cases e
def sAsgT (tg : T → En → Option En) (f : Ex) : Fs := fun γ => (f γ).bind fun p => (tg p.1 p.2).map .nx
theorem ss_asgT {tge : Expr} {tg : T → En → Option En} (he : SX X e false [] M κ f) (hg : SG X tge L κ κ1 tg) (hL : ∀ j, j ∈ L → j ∉ pl := by decide) (hs : swapsWithSole [tge] e pos.line X.env = pure false := by rfl) (hw : swappedStores [tge] e X.env = pure none := by rfl)
    (h1 : (assignEach [tge] X.env).map (·.2) = [assign tge X.env] := by rfl) : SS X (.Assign [tge] e pos) κ κ1 κb rk pl (sAsgT tg f) := PS.weak (ps_asg he hg hs hw h1) fun D σ H ⟨N, G, γ, o, hp', S, ef, q⟩ => by
  unfold sAsgT at ef
  obtain ⟨⟨t1, γ1⟩, e1, ef⟩ := Option.bind_eq_some_iff.mp ef
  obtain ⟨γ2, e2, ef⟩ := Option.map_eq_some_iff.mp ef
  cases ef
  refine ⟨N, G, γ, t1, γ1, S, e1, fun v G1 H1 s1 S1 k1 r1 => ?_⟩
  exact ⟨N, G1, γ1, t1, _, fun j hj => hp' ▸ hL j hj, S1, r1.rdy.rep, e2, fun σ' S' _ => q σ' H1 G1 s1 S'⟩
/-- a, b = x, y -/
def sPar (i j : Nat) (a : Ax) : Fs := fun γ => match a γ with
  | some ([t, u], γ') => some (.nx ((γ'.set i (some t)).set j (some u)))
  | _ => none
theorem ss_par (i j : Nat) {y : Str} {px py pt : Pos} {kt k2 pt2} (ha : SA X [a, b] [] M κ g1) (hc : X.calm = true) (hN : X.N.Nodup) (hi : X.N[i]? = some x := by rfl) (hj : X.N[j]? = some y := by rfl) (hij : i ≠ j := by decide) (hx : X.env.scope.names.lookup x = some .local := by rfl) (hy : X.env.scope.names.lookup y = some .local := by rfl)
    (hw : swappedStores [.Tuple [.Name x px, .Name y py] kt pt] (.Tuple [a, b] k2 pt2) X.env = pure (some [x, y]) := by rfl) (hs : swapsWithSole [.Tuple [.Name x px, .Name y py] kt pt] (.Tuple [a, b] k2 pt2) pos.line X.env = pure false := by rfl)
    (hk1 : i < κ.length := by decide) (hk2 : j < κ.length := by decide) (hp1 : i ∉ pl := by decide) (hp2 : j ∉ pl := by decide) :
    SS X (.Assign [.Tuple [.Name x px, .Name y py] kt pt] (.Tuple [a, b] k2 pt2) pos) κ ((κ.set i false).set j false) κb rk pl (sPar i j g1) := PS.weak (ps_par hc hN hi hj hij hx hy ha hw hs) fun D σ H ⟨N, G, γ, o, hp', S, ef, q⟩ => by
  unfold sPar at ef
  split at ef
  case h_2 => cases ef
  rename_i t u γ1 e1
  cases ef
  refine ⟨N, G, γ, _, γ1, S, e1, fun vs G1 H1 s1 S1 k1 r1 => ?_⟩
  obtain ⟨v, w, rfl, r2, r3⟩ := r1.two
  refine ⟨v, w, rfl, q _ H1 G1 s1 ?_⟩
  have S2 := S1.store (i := i) (len_of S1 hk1) (hp' ▸ hp1) r2.rep
  exact S2.store (i := j) (by rw [List.length_set]; exact len_of S1 hk2) (hp' ▸ hp2) r3.rep
def sPar3 (i j l : Nat) (a : Ax) : Fs := fun γ => match a γ with
  | some ([t, u, w], γ') => some (.nx (((γ'.set i (some t)).set j (some u)).set l (some w)))
  | _ => none
theorem ss_par3 (i j l : Nat) {y z : Str} {px py pz pt : Pos} {kt k2 pt2} (ha : SA X [a, b, c] [] M κ g1) (hc : X.calm = true) (hN : X.N.Nodup) (hi : X.N[i]? = some x := by rfl) (hj : X.N[j]? = some y := by rfl) (hl : X.N[l]? = some z := by rfl) (hij : i ≠ j := by decide) (hil : i ≠ l := by decide) (hjl : j ≠ l := by decide)
    (hx : X.env.scope.names.lookup x = some .local := by rfl) (hy : X.env.scope.names.lookup y = some .local := by rfl) (hz : X.env.scope.names.lookup z = some .local := by rfl)
    (hw : swappedStores [.Tuple [.Name x px, .Name y py, .Name z pz] kt pt] (.Tuple [a, b, c] k2 pt2) X.env = pure (some [x, y, z]) := by rfl) (hs : swapsWithSole [.Tuple [.Name x px, .Name y py, .Name z pz] kt pt] (.Tuple [a, b, c] k2 pt2) pos.line X.env = pure false := by rfl)
    (hk1 : i < κ.length := by decide) (hk2 : j < κ.length := by decide) (hk3 : l < κ.length := by decide) (hp1 : i ∉ pl := by decide) (hp2 : j ∉ pl := by decide) (hp3 : l ∉ pl := by decide) :
    SS X (.Assign [.Tuple [.Name x px, .Name y py, .Name z pz] kt pt] (.Tuple [a, b, c] k2 pt2) pos) κ (((κ.set i false).set j false).set l false) κb rk pl (sPar3 i j l g1) := PS.weak (ps_par3 hc hN hi hj hl hij hil hjl hx hy hz ha hw hs) fun D σ H ⟨N, G, γ, o, hp', S, ef, q⟩ => by
  unfold sPar3 at ef
  split at ef
  case h_2 => cases ef
  rename_i t u w' γ1 e1
  cases ef
  refine ⟨N, G, γ, _, γ1, S, e1, fun vs G1 H1 s1 S1 k1 r1 => ?_⟩
  cases r1 with
  | cons q1 r1 =>
    obtain ⟨v2, v3, rfl, r2, r3⟩ := r1.two
    refine ⟨_, v2, v3, rfl, q _ H1 G1 s1 ?_⟩
    have S2 := S1.store (i := i) (len_of S1 hk1) (hp' ▸ hp1) q1.rep
    have S3 := S2.store (i := j) (by rw [List.length_set]; exact len_of S1 hk2) (hp' ▸ hp2) r2.rep
    exact S3.store (i := l) (by rw [List.length_set, List.length_set]; exact len_of S1 hk3) (hp' ▸ hp3) r3.rep
end
end Tw

namespace Tw
open PySem PySem.Spec PyProof.Rows L2

/-! ### built-ins -/
def intsOf : List T → Option (List Int)
  | [] => some []
  | .int i :: ts => (intsOf ts).map fun r => i :: r
  | _ => none
def blsOf : List T → Option (List Bool)
  | [] => some []
  | .bl i :: ts => (blsOf ts).map fun r => i :: r
  | _ => none
theorem intsOf_some : ∀ {ts : List T} {ns : List Int}, intsOf ts = some ns → ts = ns.map T.int
  | [], ns, h => by cases h; rfl
  | t :: ts, ns, h => by
    unfold intsOf at h
    split at h
    · rename_i q; cases q
    · rename_i e
      cases e
      obtain ⟨r, h1, h2⟩ := Option.map_eq_some_iff.mp h
      cases h2
      rw [intsOf_some h1]
      rfl
    · cases h
theorem intsOf_map : ∀ ns : List Int, intsOf (ns.map T.int) = some ns
  | [] => rfl
  | n :: ns => by
    show (intsOf (ns.map T.int)).map _ = _
    rw [intsOf_map ns]
    rfl
theorem blsOf_some : ∀ {ts : List T} {ns : List Bool}, blsOf ts = some ns → ts = ns.map T.bl
  | [], ns, h => by cases h; rfl
  | t :: ts, ns, h => by
    unfold blsOf at h
    split at h
    · rename_i q; cases q
    · rename_i e
      cases e
      obtain ⟨r, h1, h2⟩ := Option.map_eq_some_iff.mp h
      cases h2
      rw [blsOf_some h1]
      rfl
    · cases h
theorem blsOf_map : ∀ ns : List Bool, blsOf (ns.map T.bl) = some ns
  | [] => rfl
  | n :: ns => by
    show (blsOf (ns.map T.bl)).map _ = _
    rw [blsOf_map ns]
    rfl
def gLen : List T → Option T
  | [.lst ts] => some (.int (ts.length : Nat))
  | [.old ts] => some (.int (ts.length : Nat))
  | [.tup ts] => some (.int (ts.length : Nat))
  | [.str z] => if z.length ≤ sizeLine then some (.int (z.length : Nat)) else none
  | _ => none
def gInt : List T → Option T
  | [.int i] => some (.int i)
  | [.bl k] => some (.int (if k then 1 else 0))
  | _ => none
def gAbs : List T → Option T
  | [.int i] => some (.int (if i < 0 then -i else i))
  | _ => none
def gMax2 : List T → Option T
  | [.int i, .int j] => some (.int (if j > i then j else i))
  | _ => none
def gMin2 : List T → Option T
  | [.int i, .int j] => some (.int (if j < i then j else i))
  | _ => none
def gDivmod : List T → Option T
  | [.int i, .int j] => if 0 < j ∧ j < 1073741824 then some (.tup [.int (i / j), .int (i % j)]) else none
  | _ => none
def gListOf : List T → Option T
  | [.lst ts] => some (.lst ts)
  | [.old ts] => some (.lst ts)
  | [.tup ts] => some (.lst ts)
  | _ => none
def gTupOf : List T → Option T
  | [.lst ts] => some (.tup ts)
  | [.tup ts] => some (.tup ts)
  | _ => none
def gSum : List T → Option T
  | [.lst ts] => (intsOf ts).map fun ns => .int ns.sum
  | _ => none
/-- the least, the greatest of a list with one at least -/
def minI : List Int → Int
  | [] => 0
  | [x] => x
  | x :: y :: r => min x (minI (y :: r))
def maxI : List Int → Int
  | [] => 0
  | [x] => x
  | x :: y :: r => max x (maxI (y :: r))
def gMinL : List T → Option T
  | [.lst ts] => (intsOf ts).bind fun ns => if ns = [] then none else some (.int (minI ns))
  | _ => none
def gMaxL : List T → Option T
  | [.lst ts] => (intsOf ts).bind fun ns => if ns = [] then none else some (.int (maxI ns))
  | _ => none
def gSortI : List T → Option T
  | [.lst ts] => (intsOf ts).map fun ns => .lst ((ns.mergeSort (fun a b => decide (a ≤ b))).map T.int)
  | _ => none
def gAll : List T → Option T
  | [.lst ts] => (blsOf ts).map fun bs => .bl (bs.all id)
  | _ => none
def gAny : List T → Option T
  | [.lst ts] => (blsOf ts).map fun bs => .bl (bs.any id)
  | _ => none
def gGcd : List T → Option T
  | [.int i, .int j] => some (.int ((Nat.gcd i.natAbs j.natAbs : Nat) : Int))
  | _ => none
def gStr : List T → Option T
  | [.int i] => if i.natAbs.log2 < 1920 then some (.str (toString i)) else none
  | _ => none
/-- isinstance with a built-in class -/
def tagT : T → String
  | .non => "NoneType"
  | .bl _ => "bool"
  | .int _ => "int"
  | .str _ => "str"
  | .tup _ => "tuple"
  | .lst _ => "list"
  | .dct _ _ => "dict"
  | .old _ => ""
def isiB (n : String) (t : T) : Option Bool := match t with
  | .old _ => none
  | t => kitB (tagT t) n

theorem minI_spec : ∀ {ns : List Int}, ns ≠ [] → minI ns ∈ ns ∧ ∀ y ∈ ns, minI ns ≤ y
  | [x], _ => ⟨by simp [minI], by simp [minI]⟩
  | x :: y :: r, _ => by
    obtain ⟨h1, h2⟩ := minI_spec (ns := y :: r) (by simp)
    unfold minI
    refine ⟨?_, fun z hz => ?_⟩
    · rcases Int.le_total x (minI (y :: r)) with h | h
      · rw [Int.min_eq_left h]; exact List.mem_cons_self
      · rw [Int.min_eq_right h]; exact List.mem_cons_of_mem _ h1
    · rcases List.mem_cons.mp hz with rfl | hz
      · omega
      · have := h2 z hz; omega
theorem maxI_spec : ∀ {ns : List Int}, ns ≠ [] → maxI ns ∈ ns ∧ ∀ y ∈ ns, y ≤ maxI ns
  | [x], _ => ⟨by simp [maxI], by simp [maxI]⟩
  | x :: y :: r, _ => by
    obtain ⟨h1, h2⟩ := maxI_spec (ns := y :: r) (by simp)
    unfold maxI
    refine ⟨?_, fun z hz => ?_⟩
    · rcases Int.le_total x (maxI (y :: r)) with h | h
      · rw [Int.max_eq_right h]; exact List.mem_cons_of_mem _ h1
      · rw [Int.max_eq_left h]; exact List.mem_cons_self
    · rcases List.mem_cons.mp hz with rfl | hz
      · omega
      · have := h2 z hz; omega
theorem sorted_one {ns ns' : List Int} (h1 : ns'.Perm ns) (h2 : ns'.Pairwise (· ≤ ·)) : ns' = ns.mergeSort (fun a b => decide (a ≤ b)) := by
  refine List.Perm.eq_of_pairwise (le := fun a b => a ≤ b) (fun a b _ _ x y => Int.le_antisymm x y) h2 ?_ (h1.trans (List.mergeSort_perm ns _).symm)
  have := List.pairwise_mergeSort (le := fun a b => decide (a ≤ b)) (fun a b c => by simp; omega) (fun a b => by simp; omega) ns
  exact this.imp fun h => by simpa using h

section
variable {X : Cx} {K : PySem.W.Frag} {N N' : Nt} {G G' H H' : Hp} {σ σ' : L2.St} {γ γ' : En} {ts us : List T} {vs : List V} {t u : T} {v : V}
variable {κ κ1 κ2 κb : List Bool} {rk : Bool} {pl io own L : List Nat} {pk : List Bool} {F F1 F2 : Fs} {st : Stmt} {rest body : List Stmt} {D D' : Ends} {o : Out}
variable {e a b c : Expr} {es : List Expr} {pos p q apos cpos pos' tpos : Pos} {m : Bool} {B B1 B2 M M1 M2 M3 : List Nat} {f f1 f2 f3 : Ex} {g1 g2 : Ax} {c1 c2 : Tx} {x name : Str} {id T' : String}
theorem Rdy.len (r : Rdy K κ G σ γ B t v) (S : Sta K N G κ σ H γ) (e : gLen [t] = some u) : ∃ n : Nat, u = .int n ∧ LenV K v H n := by
  cases t with
  | lst ts => obtain ⟨a, vs, rfl, h1, r1⟩ := r.list S; cases e; exact ⟨_, rfl, .inl ⟨vs, .inl (.inl h1), r1.length.symm⟩⟩
  | old ts => obtain ⟨a, vs, rfl, h1, r1⟩ := r.older S; cases e; exact ⟨_, rfl, .inl ⟨vs, h1, r1.length.symm⟩⟩
  | tup ts => obtain ⟨a, vs, rfl, h1, r1⟩ := r.tuple S; cases e; exact ⟨_, rfl, .inr ⟨vs, h1, r1.length.symm⟩⟩
  | str z =>
    have := r.str S
    subst this
    have e2 : (if z.length ≤ sizeLine then some (T.int (z.length : Nat)) else none) = some u := e
    split at e2 <;> cases e2
    exact ⟨_, rfl, by assumption, rfl⟩
  | non => cases e
  | bl _ => cases e
  | int _ => cases e
  | dct _ _ => cases e
theorem fn_len : FnT K (fun xs H Q => ∃ x n, xs = [x] ∧ LenV K x H n ∧ Q (.int n) H) false gLen := by
  intro N G κ σ H γ B ts tz xs S r e Q q
  have : ∃ t, ts = [t] := by
    unfold gLen at e
    split at e <;> first | exact ⟨_, rfl⟩ | cases e
  obtain ⟨t, rfl⟩ := this
  obtain ⟨v, rfl, r1⟩ := r.one
  obtain ⟨n, rfl, h⟩ := r1.len S e
  exact ⟨v, n, rfl, h, q _ G H (Same.refl _) S (.old .int)⟩
theorem fn_int : FnT K (fun xs H Q => (∃ i, xs = [.int i] ∧ Q (.int i) H) ∨ ∃ k, xs = [.bl k] ∧ Q (.int (if k then 1 else 0)) H) false gInt := by
  intro N G κ σ H γ B ts tz xs S r e Q q
  unfold gInt at e
  split at e
  · cases e
    obtain ⟨v, rfl, r1⟩ := r.one
    exact .inl ⟨_, by rw [r1.int S], q _ G H (Same.refl _) S (.old .int)⟩
  · cases e
    obtain ⟨v, rfl, r1⟩ := r.one
    exact .inr ⟨_, by rw [r1.bl S], q _ G H (Same.refl _) S (.old .int)⟩
  · cases e
theorem fn_abs : FnT K (fun xs H Q => ∃ i, xs = [.int i] ∧ Q (.int (if i < 0 then -i else i)) H) false gAbs := by
  intro N G κ σ H γ B ts tz xs S r e Q q
  unfold gAbs at e
  split at e <;> cases e
  obtain ⟨v, rfl, r1⟩ := r.one
  exact ⟨_, by rw [r1.int S], q _ G H (Same.refl _) S (.old .int)⟩
theorem fn_max2 : FnT K (fun xs H Q => ∃ i j, xs = [.int i, .int j] ∧ Q (.int (if j > i then j else i)) H) false gMax2 := by
  intro N G κ σ H γ B ts tz xs S r e Q q
  unfold gMax2 at e
  split at e <;> cases e
  obtain ⟨v, w, rfl, r1, r2⟩ := r.two
  exact ⟨_, _, by rw [r1.int S, r2.int S], q _ G H (Same.refl _) S (.old .int)⟩
theorem fn_min2 : FnT K (fun xs H Q => ∃ i j, xs = [.int i, .int j] ∧ Q (.int (if j < i then j else i)) H) false gMin2 := by
  intro N G κ σ H γ B ts tz xs S r e Q q
  unfold gMin2 at e
  split at e <;> cases e
  obtain ⟨v, w, rfl, r1, r2⟩ := r.two
  exact ⟨_, _, by rw [r1.int S, r2.int S], q _ G H (Same.refl _) S (.old .int)⟩
theorem fn_gcd : FnT K rGcd false gGcd := by
  intro N G κ σ H γ B ts tz xs S r e Q q
  unfold gGcd at e
  split at e <;> cases e
  obtain ⟨v, w, rfl, r1, r2⟩ := r.two
  exact ⟨_, _, by rw [r1.int S, r2.int S], q _ G H (Same.refl _) S (.old .int)⟩
theorem fn_str : FnT K (fun xs H Q => ∃ i, xs = [.int i] ∧ i.natAbs.log2 < 1920 ∧ Q (.str (toString i)) H) false gStr := by
  intro N G κ σ H γ B ts tz xs S r e Q q
  unfold gStr at e
  split at e
  · split at e <;> cases e
    obtain ⟨v, rfl, r1⟩ := r.one
    exact ⟨_, by rw [r1.int S], by assumption, q _ G H (Same.refl _) S (.old .str)⟩
  · cases e
theorem fn_divmod : FnT K (fun xs H Q => ∃ i j, xs = [.int i, .int j] ∧ CDiv i j ∧ ∀ p, H p = none → Q (.ref p) (upd H p (.tup [.int (i / j), .int (i % j)]))) false gDivmod := by
  intro N G κ σ H γ B ts tz xs S r e Q q
  unfold gDivmod at e
  split at e
  · split at e <;> cases e
    obtain ⟨v, w, rfl, r1, r2⟩ := r.two
    refine ⟨_, _, by rw [r1.int S, r2.int S], by assumption, fun p hp => ?_⟩
    obtain ⟨G', s, S', rr⟩ := S.tupled (ts := [.int _, .int _]) hp (.cons .int (.cons .int .nil))
    exact q _ G' _ s S' (.old rr)
  · cases e
theorem fn_listOf : FnT K (fun xs H Q => ∃ p ys, xs = [.ref p] ∧ (SqL K H p ys ∨ SqT K H p ys) ∧ ∀ l, H l = none → Q (.ref l) (upd H l (.lst ys))) true gListOf := by
  intro N G κ σ H γ B ts tz xs S r e Q q
  unfold gListOf at e
  split at e
  · cases e
    obtain ⟨v, rfl, r1⟩ := r.one
    obtain ⟨a, vs, rfl, h1, r2⟩ := r1.list S
    refine ⟨a, vs, rfl, .inl (.inl (.inl h1)), fun l hl => ?_⟩
    obtain ⟨S', f⟩ := S.listed hl r2
    exact q _ G _ (Same.refl _) S' (.new f)
  · cases e
    obtain ⟨v, rfl, r1⟩ := r.one
    obtain ⟨a, vs, rfl, h1, r2⟩ := r1.older S
    refine ⟨a, vs, rfl, .inl h1, fun l hl => ?_⟩
    obtain ⟨S', f⟩ := S.listed hl r2
    exact q _ G _ (Same.refl _) S' (.new f)
  · cases e
    obtain ⟨v, rfl, r1⟩ := r.one
    obtain ⟨a, vs, rfl, h1, r2⟩ := r1.tuple S
    refine ⟨a, vs, rfl, .inr h1, fun l hl => ?_⟩
    obtain ⟨S', f⟩ := S.listed hl r2
    exact q _ G _ (Same.refl _) S' (.new f)
  · cases e
theorem fn_tupOf : FnT K (fun xs H Q => ∃ p ys, xs = [.ref p] ∧ ((SqL K H p ys ∧ ∀ l, H l = none → Q (.ref l) (upd H l (.tup ys))) ∨ (SqT K H p ys ∧ Q (.ref p) H))) false gTupOf := by
  intro N G κ σ H γ B ts tz xs S r e Q q
  unfold gTupOf at e
  split at e
  · cases e
    obtain ⟨v, rfl, r1⟩ := r.one
    obtain ⟨a, vs, rfl, h1, r2⟩ := r1.list S
    refine ⟨a, vs, rfl, .inl ⟨.inl (.inl h1), fun l hl => ?_⟩⟩
    obtain ⟨G', s, S', rr⟩ := S.tupled hl r2
    exact q _ G' _ s S' (.old rr)
  · cases e
    obtain ⟨v, rfl, r1⟩ := r.one
    have k1 := Rdy.tupRep r1 S
    obtain ⟨a, vs, rfl, h1, r2⟩ := r1.tuple S
    exact ⟨a, vs, rfl, .inr ⟨h1, q _ G H (Same.refl _) S (.old k1)⟩⟩
  · cases e
theorem ints_at {xs : List V} (r : Rdys K κ G σ γ B [.lst ts] xs) (S : Sta K N G κ σ H γ) {ns : List Int} (e : intsOf ts = some ns) : ∃ a, xs = [.ref a] ∧ SqL K H a (ns.map V.int) := by
  obtain ⟨v, rfl, r1⟩ := r.one
  obtain ⟨a, vs, rfl, h1, r2⟩ := r1.list S
  rw [intsOf_some e] at r2
  rw [r2.ints] at h1
  exact ⟨a, rfl, .inl (.inl h1)⟩
theorem fn_sum : FnT K (rSum K) false gSum := by
  intro N G κ σ H γ B ts tz xs S r e Q q
  unfold gSum at e
  split at e
  · obtain ⟨ns, h1, h2⟩ := Option.map_eq_some_iff.mp e
    cases h2
    obtain ⟨a, rfl, h3⟩ := ints_at r S h1
    exact ⟨a, ns, rfl, h3, q _ G H (Same.refl _) S (.old .int)⟩
  · cases e
theorem fn_minL : FnT K (rMin K) false gMinL := by
  intro N G κ σ H γ B ts tz xs S r e Q q
  unfold gMinL at e
  split at e
  · obtain ⟨ns, h1, h2⟩ := Option.bind_eq_some_iff.mp e
    split at h2 <;> cases h2
    rename_i hne
    obtain ⟨a, rfl, h3⟩ := ints_at r S h1
    refine ⟨a, ns, rfl, h3, List.length_pos_iff.mpr hne, fun m hm hle => ?_⟩
    obtain ⟨w1, w2⟩ := minI_spec hne
    have : m = minI ns := Int.le_antisymm (hle _ w1) (w2 _ hm)
    rw [this]
    exact q _ G H (Same.refl _) S (.old .int)
  · cases e
theorem fn_maxL : FnT K (rMax K) false gMaxL := by
  intro N G κ σ H γ B ts tz xs S r e Q q
  unfold gMaxL at e
  split at e
  · obtain ⟨ns, h1, h2⟩ := Option.bind_eq_some_iff.mp e
    split at h2 <;> cases h2
    rename_i hne
    obtain ⟨a, rfl, h3⟩ := ints_at r S h1
    refine ⟨a, ns, rfl, h3, List.length_pos_iff.mpr hne, fun m hm hle => ?_⟩
    obtain ⟨w1, w2⟩ := maxI_spec hne
    have : m = maxI ns := Int.le_antisymm (w2 _ hm) (hle _ w1)
    rw [this]
    exact q _ G H (Same.refl _) S (.old .int)
  · cases e
theorem fn_sortI : FnT K (rSortedI K) true gSortI := by
  intro N G κ σ H γ B ts tz xs S r e Q q
  unfold gSortI at e
  split at e
  · obtain ⟨ns, h1, h2⟩ := Option.map_eq_some_iff.mp e
    cases h2
    obtain ⟨a, rfl, h3⟩ := ints_at r S h1
    refine ⟨a, ns, rfl, h3, fun ns' p hp hs hn => ?_⟩
    rw [sorted_one hp hs]
    obtain ⟨S', f⟩ := S.listed hn (Reps.ints_of (K := K) (G := G) (ns.mergeSort _))
    exact q _ G _ (Same.refl _) S' (.new f)
  · cases e
theorem bls_at {xs : List V} (r : Rdys K κ G σ γ B [.lst ts] xs) (S : Sta K N G κ σ H γ) {ns : List Bool} (e : blsOf ts = some ns) : ∃ a, xs = [.ref a] ∧ SqL K H a (ns.map V.bl) := by
  obtain ⟨v, rfl, r1⟩ := r.one
  obtain ⟨a, vs, rfl, h1, r2⟩ := r1.list S
  rw [blsOf_some e] at r2
  rw [r2.bls] at h1
  exact ⟨a, rfl, .inl (.inl h1)⟩
theorem fn_all : FnT K (rAll K) false gAll := by
  intro N G κ σ H γ B ts tz xs S r e Q q
  unfold gAll at e
  split at e
  · obtain ⟨ns, h1, h2⟩ := Option.map_eq_some_iff.mp e
    cases h2
    obtain ⟨a, rfl, h3⟩ := bls_at r S h1
    exact ⟨a, ns, rfl, h3, q _ G H (Same.refl _) S (.old .bl)⟩
  · cases e
theorem fn_any : FnT K (rAny K) false gAny := by
  intro N G κ σ H γ B ts tz xs S r e Q q
  unfold gAny at e
  split at e
  · obtain ⟨ns, h1, h2⟩ := Option.map_eq_some_iff.mp e
    cases h2
    obtain ⟨a, rfl, h3⟩ := bls_at r S h1
    exact ⟨a, ns, rfl, h3, q _ G H (Same.refl _) S (.old .bl)⟩
  · cases e
/-- a built-in that a module has under a name of its own -/
theorem sx_callF {r : List V → Hp → VK → Prop} {g : List T → Option T} (hc : CallR X (.builtin id) r) (hg : FnT X.K r m g) (hgl : Gl X x) (hm : X.mg x = some (.builtin id)) (ha : SA X (e :: es) B M κ g1)
    (hdb : (x == ("__debug__" : Str)) = false := by decide) (he : starEach (e :: es) X.env = (false, eval e X.env) :: starEach es X.env := by rfl) (hpl : (backTo pos (starEach es X.env)).any (·.1) = false := by rfl) :
    SX X (.Call (.Name x p) (e :: es) [] pos) m [] M κ (eCall g g1) := PE.weak (pe_callBfun hc hgl hm ha hdb he hpl) (call_of hg)
/-- list(range(..)) -/
abbrev Rx := En → Option (Int × Int × En)
def rx1 (f : Ex) : Rx := fun γ => match f γ with
  | some (.int j, γ') => some (0, j, γ')
  | _ => none
def rx2 (f1 f2 : Ex) : Rx := fun γ => (f1 γ).bind fun p => (f2 p.2).bind fun q => match p.1, q.1 with
  | .int i, .int j => some (i, j, q.2)
  | _, _ => none
def eListR (f : Rx) : Ex := fun γ => (f γ).bind fun p => if -(2 ^ 62) ≤ p.1 ∧ p.1 < 2 ^ 62 ∧ -(2 ^ 62) ≤ p.2.1 ∧ p.2.1 < 2 ^ 62 ∧ (p.2.1 - p.1).toNat ≤ 2 ^ 24 then some (.lst (rngT p.1 (p.2.1 - p.1).toNat), p.2.2) else none
def cR (K : PySem.W.Frag) (M : List Nat) (κ : List Bool) (f : Rx) : L2.St → Hp → (Int → Int → Hp → Prop) → Prop := fun σ H Q => ∃ N G γ i j γ', Sta K N G κ σ H γ ∧ f γ = some (i, j, γ') ∧
  ∀ G' H', Same G G' → Sta K N G' κ σ H' γ' → Keeps M γ γ' → Q i j H'
abbrev SR (X : Cx) (e : Expr) (M : List Nat) (κ : List Bool) (f : Rx) : Prop := PRg X e (cR X.K M κ f)
theorem sr_1 (hg : Gl X "range") (hm : X.mg "range" = none) (ha : SX X a false B M κ f) (na : starEach [a] X.env = (false, eval a X.env) :: starEach [] X.env := by rfl) : SR X (.Call (.Name "range" p) [a] [] pos) M κ (rx1 f) := by
  intro pins s σ H R I ⟨N, G, γ, i, j, γ', S, ef, q⟩
  refine prg_1 hg hm ha na pins s σ H R I ?_
  unfold rx1 at ef
  split at ef
  case h_2 => cases ef
  rename_i e1
  cases ef
  exact ⟨N, G, γ, _, _, S, e1, fun v G1 H1 s1 S1 k1 r1 => ⟨j, r1.rdy.int S1, q G1 H1 s1 S1 k1⟩⟩
theorem sr_2 (hg : Gl X "range") (hm : X.mg "range" = none) (ha : SX X a false B1 M1 κ f1) (hb : SX X b false B2 M2 κ f2) (na : starEach [a, b] X.env = (false, eval a X.env) :: starEach [b] X.env := by rfl) (nb : starEach [b] X.env = (false, eval b X.env) :: starEach [] X.env := by rfl) (hpl : (backTo pos (starEach [b] X.env)).any (·.1) = false := by rfl) :
    SR X (.Call (.Name "range" p) [a, b] [] pos) (M1 ++ M2) κ (rx2 f1 f2) := by
  intro pins s σ H R I ⟨N, G, γ, i, j, γ', S, ef, q⟩
  refine prg_2 hg hm ha hb na nb hpl pins s σ H R I ?_
  unfold rx2 at ef
  obtain ⟨⟨t1, γ1⟩, e1, ef⟩ := Option.bind_eq_some_iff.mp ef
  obtain ⟨⟨t2, γ2⟩, e2, ef⟩ := Option.bind_eq_some_iff.mp ef
  dsimp only at ef
  split at ef
  case h_2 => cases ef
  cases ef
  refine ⟨N, G, γ, _, γ1, S, e1, fun v1 G1 H1 s1 S1 k1 r1 => ⟨N, G1, γ1, _, _, S1, e2, fun v2 G2 H2 s2 S2 k2 r2 => ?_⟩⟩
  exact ⟨i, j, r1.rdy.int S1, r2.rdy.int S2, q G2 H2 (s1.trans s2) S2 (k1.trans k2)⟩
theorem rngT_reps (lo : Int) : ∀ n : Nat, Reps K G (rngT lo n) ((List.range n).map fun i => V.int (lo + (i : Nat))) := fun n => by
  have : rngT lo n = ((List.range n).map fun i => lo + ((i : Nat) : Int)).map T.int := by unfold rngT; rw [List.map_map]; rfl
  rw [this]
  have h2 : ((List.range n).map fun i => V.int (lo + (i : Nat))) = ((List.range n).map fun i => lo + ((i : Nat) : Int)).map V.int := by rw [List.map_map]; rfl
  rw [h2]
  exact Reps.ints_of _
theorem sx_listR {fr : Rx} (hc : X.calm = true) (hg : Gl X "list") (hm : X.mg "list" = none) (he : SR X e M κ fr) (na : starEach [e] X.env = (false, eval e X.env) :: starEach [] X.env := by rfl) : SX X (.Call (.Name "list" p) [e] [] pos) true [] M κ (eListR fr) :=
  PE.weak (pe_listRg hc hg hm he na) fun σ H Q ⟨N, G, γ, r, γ', S, ef, q⟩ => by
  unfold eListR at ef
  obtain ⟨⟨i, j, γ1⟩, e1, ef⟩ := Option.bind_eq_some_iff.mp ef
  split at ef <;> cases ef
  rename_i hz
  refine ⟨N, G, γ, i, j, _, S, e1, fun G1 H1 s1 S1 k1 => ⟨hz, fun l hl => ?_⟩⟩
  obtain ⟨S2, f⟩ := S1.listed hl (rngT_reps i (j - i).toNat)
  exact q _ G1 _ s1 S2 k1 (.new f)
/-- range(i, j, c) walked -/
def rngC (lo c : Int) (n : Nat) : List T := (List.range n).map fun k => T.int (lo + (k : Nat) * c)
def iR3 (a : Ax) : Ix := fun γ => match a γ with
  | some ([.int i, .int j, .int c], γ') => if c ≠ 0 ∧ c.natAbs < 1073741824 ∧ Builtin.Range.small i j c = true then some (rngC i c (Builtin.Range.rangeSize i j c).toNat, γ') else none
  | _ => none
theorem wk_rngC {lo c : Int} {n : Nat} : Wk K κ σ γ B (rngC lo c n) G (Itc lo c n) := by
  intro i N1 G1 κ1 σ1 H1 γ1 s S _
  refine ⟨fun t ht => ?_, fun hi => show n ≤ i by simpa [rngC] using hi⟩
  unfold rngC at ht
  rw [List.getElem?_map] at ht
  by_cases hi : i < n
  · rw [List.getElem?_range hi] at ht
    cases ht
    refine ⟨hi, fun x H2 ⟨e, hy⟩ => ?_⟩
    subst e hy
    exact ⟨G1, Same.refl _, S, .int⟩
  · rw [List.getElem?_eq_none (by simpa using hi)] at ht
    cases ht
/-- enumerate of a list -/
def enuT (ts : List T) : List T := ts.mapIdx fun i t => T.tup [.int (i : Nat), t]
def iEnu (f : Ex) : Ix := fun γ => match f γ with
  | some (.lst ts, γ') => some (enuT ts, γ')
  | _ => none
theorem rdy_walk {ts : List T} (S0 : Sta K N G κ σ H γ) (r : Rdy K κ G σ γ B (.lst ts) v) : ∃ a vs, v = .ref a ∧ SqL K H a vs ∧ ∀ (N1 : Nt) (G1 : Hp) (κ1 : List Bool) (σ1 : L2.St) (H1 : Hp) (γ1 : En), Same G G1 → Sta K N1 G1 κ1 σ1 H1 γ1 →
    (∀ j : Nat, j ∈ B → κ1[j]? = some true ∧ γ1[j]? = γ[j]? ∧ σ1[j]? = σ[j]?) → ∃ vs, SqL K H1 a vs ∧ Reps K G1 ts vs := by
  rcases r with r | ⟨j, hj, k, g, e⟩
  · unfold Rep at r
    obtain ⟨a, vs, e, s, q⟩ := r
    exact ⟨a, vs, e, .inl (.inl (S0.le _ _ s)), fun N1 G1 κ1 σ1 H1 γ1 s1 S1 _ => ⟨vs, .inl (.inl (S1.le _ _ (s1 _ _ s))), q.mono s1⟩⟩
  · obtain ⟨a, o, e1, _, e3, ⟨vs0, rfl, q0⟩, _⟩ := S0.own j _ k g
    rw [e] at e1
    cases e1
    refine ⟨a, vs0, rfl, .inl (.inl e3), fun N1 G1 κ1 σ1 H1 γ1 s1 S1 hB => ?_⟩
    obtain ⟨b1, b2, b3⟩ := hB j hj
    rw [g] at b2
    rw [e] at b3
    obtain ⟨a', o', q1, _, q3, ⟨vs, rfl, r⟩, _⟩ := S1.own j _ b1 b2
    rw [b3] at q1
    cases q1
    exact ⟨vs, .inl (.inl q3), r⟩
theorem si_enu {elts : List Expr} {kk : Nat} (hg : Gl X "enumerate") (hm : X.mg "enumerate" = none) (ha : SX X e false B M κ f) (hs : starEach [e] X.env = [(false, eval e X.env)] := by rfl) (hs2 : starEach [e] X.env = (false, eval e X.env) :: starEach [] X.env := by rfl) :
    SI X (.Tuple elts kk tpos) (.Call (.Name "enumerate" p) [e] [] pos) B M κ (iEnu f) := PI.weak (pi_enum hg hm (pa_cons ha pa_nil hs2) hs) fun σ H R ⟨N, G, γ, r, γ', S, ef, q⟩ => by
  unfold iEnu at ef
  split at ef
  case h_2 => cases ef
  rename_i ts γ1 e1
  cases ef
  refine ⟨N, G, γ, _, _, S, e1, fun v G1 H1 s1 S1 k1 r1 => ?_⟩
  obtain ⟨a, vs, rfl, h1, h2⟩ := rdy_walk S1 r1.rdy
  refine ⟨a, vs, rfl, h1, q _ G1 H1 s1 S1 k1 fun i N2 G2 κ2 σ2 H2 γ2 s2 S2 hB => ?_⟩
  obtain ⟨vs2, h3, h4⟩ := h2 N2 G2 κ2 σ2 H2 γ2 s2 S2 hB
  refine ⟨fun t ht => ?_, fun hi => ⟨vs2, h3, by rw [h4.length]; simpa [enuT] using hi⟩⟩
  unfold enuT at ht
  rw [List.getElem?_mapIdx] at ht
  obtain ⟨t0, ht0, rfl⟩ := Option.map_eq_some_iff.mp ht
  obtain ⟨v0, h5, h6⟩ := h4.get ht0
  refine ⟨⟨vs2, v0, h3, h5⟩, fun x H3 ⟨Tt, x0, e1, e2, e3, e4⟩ => ?_⟩
  have := e4 vs2 h3
  rw [h5] at this
  cases this
  subst e1 e3
  exact S2.tupled e2 (.cons .int (.cons h6 .nil))
/-- isinstance of a built-in class -/
def gIsi (n : String) : T → Option T := fun t => (isiB n t).map T.bl
theorem Rdy.ty (r : Rdy K κ G σ γ B t v) (S : Sta K N G κ σ H γ) (h : ∀ ts, t ≠ .old ts) : TyX K H v (.type (tagT t)) := by
  cases t with
  | non => rw [r.non S]; exact .base .non
  | bl b => rw [r.bl S]; exact .base (.bl b)
  | int i => rw [r.int S]; exact .base (.int i)
  | str z => rw [r.str S]; exact .base (.str z)
  | tup ts =>
    obtain ⟨a, vs, rfl, h1, _⟩ := r.tuple S
    rcases h1 with (h1 | ⟨o, h1⟩) | ⟨o, its, n, h1, h2, _⟩
    · exact .base (.tup h1)
    · exact .fTuple h1
    · exact .kTuple h1 h2
  | lst ts => obtain ⟨a, vs, rfl, h1, _⟩ := r.list S; exact .base (.lst h1)
  | dct ks ts =>
    obtain ⟨a, o, rfl, h1, ⟨kvs, rfl, _⟩ | ⟨kvs, rfl, _⟩⟩ := r.dict S
    · exact .base (.dK h1)
    · exact .base (.dT h1)
  | old ts => exact absurd rfl (h ts)
theorem sx_isi (n : String) {tn : Str} (ha : SX X e false B M κ f) (hgl : Gl X "isinstance") (hm : X.mg "isinstance" = none) (hv : bootBuiltins "isinstance" = some (.builtin "isinstance")) (hg2 : Gl X tn) (hm2 : X.mg tn = none) (hv2 : bootBuiltins tn = some (.type n))
    (hn : tn ≠ "__name__" := by decide) (hdb : (tn == ("__debug__" : Str)) = false := by decide)
    (hs1 : starEach [.Name tn q] X.env = (false, eval (.Name tn q) X.env) :: starEach [] X.env := by rfl) (he : starEach [e, .Name tn q] X.env = (false, eval e X.env) :: starEach [.Name tn q] X.env := by rfl) (hpl : (backTo pos (starEach [.Name tn q] X.env)).any (·.1) = false := by rfl) :
    SX X (.Call (.Name "isinstance" p) [e, .Name tn q] [] pos) false [] M κ (eUn (gIsi n) f) :=
  PE.weak (pe_callB call_isi hgl hm hv (pa_cons ha (pa_cons (pe_bltn (v := V.ty n) hg2 hm2 hv2 rfl hn hdb) pa_nil hs1) he) (he := he) (hpl := hpl)) fun σ H Q ⟨N, G, γ, r, γ', S, ef, q⟩ => by
  unfold eUn at ef
  obtain ⟨⟨t1, γ1⟩, e1, ef⟩ := Option.bind_eq_some_iff.mp ef
  obtain ⟨t3, e3, ef⟩ := Option.map_eq_some_iff.mp ef
  cases ef
  obtain ⟨k, e4, rfl⟩ := Option.map_eq_some_iff.mp e3
  refine ⟨N, G, γ, t1, _, S, e1, fun v G1 H1 s1 S1 k1 r1 => ?_⟩
  have ho : ∀ ts, t1 ≠ .old ts := fun ts z => by rw [z] at e4; cases e4
  have hk : kitB (tagT t1) n = some k := by
    cases t1 <;> first | exact e4 | exact absurd rfl (ho _)
  exact ⟨v, .ty n, _, _, k, rfl, .ty n, r1.rdy.ty S1 ho, kit_ty hk, q _ G1 H1 s1 S1 k1 (.old .bl)⟩
end
end Tw

namespace Tw
open PySem PySem.Spec PyProof.Rows L2

/-! ### what stands behind the top -/
/-- the module's def x stands there -/
def Has (K : PySem.W.Frag) (mg : Str → Option Value) (x : Str) (st : Stmt) : Prop := ∃ (fa : Addr) (fd : FuncData), Fun K x x st fa fd ∧ mg x = some (.ref fa)
/-- the module's def x reckons F -/
def Known (P : Program) (w : World) (K : PySem.W.Frag) (mg : Str → Option Value) (x : Str) (k : Nat) (ps : List Str) (pk : List Bool) (rk : Bool) (F : Sem') : Prop :=
  ∃ (fa : Addr) (fd : FuncData), mg x = some (.ref fa) ∧ PySem.W.keepIn K (.ref fa) = true ∧ (∀ us : List Value, us.length = ps.length → bindArgs fd ⟨us, []⟩ = pure (ps.zip us)) ∧
    ∀ base : Heap, FnOk P w K mg base CX0 k fa fd ps (spF K pk rk F)
section
variable {P : Program} {w : World} {K : PySem.W.Frag} {mg : Str → Option Value} {x : Str} {st : Stmt} {k : Nat} {ps Ns : List Str} {pk κ' : List Bool} {rk : Bool} {F : Sem'} {F0 : Fs}
theorem Fun.bindsAll {qual : Str} {f : Addr} {fd : FuncData} (F : Fun K x qual st f fd)
    (h : ∀ (kV doc pm : Value) (an : Option Addr) (cdv ct : Value) (us : List Value), us.length = ps.length → bindArgs (PySem.W.fnOf x qual (defArgs st) (defBody st) (defScope st) .none kV doc pm an cdv ct) ⟨us, []⟩ = pure (ps.zip us)) :
    ∀ us : List Value, us.length = ps.length → bindArgs fd ⟨us, []⟩ = pure (ps.zip us) := by
  obtain ⟨oc, od, kV, doc, pm, an, cdv, ct, osl, rfl, lk, hcd⟩ := F.ex
  exact h kV doc pm an cdv ct
theorem known_def {pl : List Nat} (hH : Has K mg x st)
    (hbind : ∀ (kV doc pm : Value) (an : Option Addr) (cdv ct : Value) (us : List Value), us.length = ps.length → bindArgs (PySem.W.fnOf x x (defArgs st) (defBody st) (defScope st) .none kV doc pm an cdv ct) ⟨us, []⟩ = pure (ps.zip us))
    (sc : FnScope Ns ps (defScope st)) (hl : ps.length = pk.length) (hpl : plOf 0 pk = pl)
    (hb : ∀ (fa : Addr) (base : Heap) (cdv : Value) (A : Around) (outer : List Env) (s : Shared) (H : Hp) (E : XK), Room k (A.deeper (envOfC x (defScope st) s.heap.objs.size fa cdv)) →
      SSs (cxOf CX0 P w K mg base Ns x (defScope st) fa cdv A outer s H E).nox (defBody st) (pk ++ List.replicate (Ns.length - pk.length) false) κ' [] rk pl F0)
    (hr : rk = true → ∀ γ γ', F0 γ ≠ some (.nx γ')) : Known P w K mg x (k + 1) ps pk rk (semOf Ns.length pl F0) := by
  obtain ⟨fa, fd, hF, hm⟩ := hH
  subst hpl
  exact ⟨fa, fd, hm, hF.kp, Fun.bindsAll hF hbind, fun base => def_ok hF sc hl (hb fa base) hr⟩
theorem known_zero (hH : Has K mg x st)
    (hbind : ∀ (kV doc pm : Value) (an : Option Addr) (cdv ct : Value) (us : List Value), us.length = ps.length → bindArgs (PySem.W.fnOf x x (defArgs st) (defBody st) (defScope st) .none kV doc pm an cdv ct) ⟨us, []⟩ = pure (ps.zip us))
    (hF : ∀ ts, F ts = none) : Known P w K mg x k ps pk rk F := by
  obtain ⟨fa, fd, hF', hm⟩ := hH
  refine ⟨fa, fd, hm, hF'.kp, Fun.bindsAll hF' hbind, fun base => ⟨fun vs H Q E h => ?_, fun A outer s H args us vs Q E hr he hb hv h => ?_⟩⟩
  · obtain ⟨G, ts, r, outs, _, _, _, e, _⟩ := h
    rw [hF] at e
    cases e
  · obtain ⟨G, ts, r, outs, _, _, _, e, _⟩ := h
    rw [hF] at e
    cases e
theorem Known.mono {j : Nat} (h : Known P w K mg x j ps pk rk F) (hj : j ≤ k) : Known P w K mg x k ps pk rk F := by
  obtain ⟨fa, fd, a, b, c, d⟩ := h
  exact ⟨fa, fd, a, b, c, fun base => (d base).mono hj⟩
end
theorem sx_ownK {X : Cx} {x : Str} {k : Nat} {ps : List Str} {pk : List Bool} {rk : Bool} {F : Sem'} {e : Expr} {es : List Expr} {io M : List Nat} {κ : List Bool} {g1 : Ax} {p pos : Pos}
    (KN : Known X.prog X.w X.K X.mg x k ps pk rk F) (hr : Room k X.A) (hg : Gl X x) (ha : SAK X (e :: es) pk io M κ g1) (hn : io.Nodup := by decide)
    (hdb : (x == ("__debug__" : Str)) = false := by decide) (he : starEach (e :: es) X.env = (false, eval e X.env) :: starEach es X.env := by rfl) (hpl : (backTo pos (starEach es X.env)).any (·.1) = false := by rfl) :
    SX X (.Call (.Name x p) (e :: es) [] pos) rk [] (M ++ io) κ (eOwn F io g1) := by
  obtain ⟨fa, fd, hm, kp, hb, hF⟩ := KN
  exact sx_own' (E := E0) (hF X.base) hr hg hm kp (.all hb) pass0 ha hn hdb he hpl
theorem has_mk {K : PySem.W.Frag} {h : Heap} {mg : Str → Option Value} {x : Str} {st : Stmt} {f : Addr} {oc : Value} {od an : Option Addr} {sl : Array (Option Value)} {kV dc pm cd ct : Value} (X : K.In h) (G : h.Ns mainGlobals mg)
    (a : PySem.W.nsIn K mainGlobals x = some (some (.ref f))) (l : K.lookup f = some ⟨oc, od, .func (PySem.W.fnOf x x (defArgs st) (defBody st) (defScope st) .none kV dc pm an cd ct), sl⟩)
    (c : PySem.W.codeIn K cd x = true) (k : PySem.W.keepIn K (.ref f) = true) : Has K mg x st := ⟨f, _, fun_mk l c k, PySem.W.mg_of X G a⟩
theorem law_F {P : Program} {w : World} {K : PySem.W.Frag} {mg : Str → Option Value} {fa : Addr} {x nm : Str} {k : Nat} {pk : List Bool} {rk : Bool} {F : Sem'} (KN : Known P w K mg nm k [x] pk rk F) (hmg : mg nm = some (.ref fa)) :
    ∃ fd : FuncData, (∀ (s : Shared) (u : Value), BindsTo s fd ⟨[u], []⟩ [(x, u)]) ∧ ∀ base : Heap, K.In base → base.Ns mainGlobals mg → FnOk P w K mg base CX0 k fa fd [x] (spF K pk rk F) := by
  obtain ⟨fa', fd, hm, kp, hb, hF⟩ := KN
  have e := hmg.symm.trans hm
  cases e
  exact ⟨fd, fun s u => .of_eq (hb [u] rfl), fun base _ _ => hF base⟩
theorem ints_reps {K : PySem.W.Frag} {G : Hp} : ∀ ns : List Int, Reps K G (ns.map T.int) (ns.map V.int)
  | [] => Reps.nil
  | n :: ns => Reps.cons Rep.int (ints_reps ns)
theorem law_sp {K : PySem.W.Frag} {H : Hp} {a : Addr} {ns : List Int} {F : Sem'} {E : XK} (hS : SqL K H a (ns.map V.int)) (hF : F [.old (ns.map T.int)] = some (.bl true, [])) :
    spF K [false] false F [.ref a] H (fun v _ => v = .bl true) E := by
  refine ⟨H, [.old (ns.map T.int)], .bl true, [], Same.refl _, ⟨_, [], _, [], rfl, rfl, ?_, rfl, rfl⟩, List.nodup_nil, hF, fun v G' H' _ _ _ _ _ hr => ?_⟩
  · rw [if_neg (by decide)]
    unfold Rep
    exact ⟨a, _, rfl, hS, ints_reps ns⟩
  · unfold ResE at hr
    rw [if_neg (by decide)] at hr
    unfold Rep at hr
    exact hr
theorem sss_no {X : Cx} {sts : List Stmt} {κ κ' κb : List Bool} {rk : Bool} {pl : List Nat} : SSs X sts κ κ' κb rk pl sNo := PSs.weak pss_never fun D σ H ⟨N, G, γ, o, hp', S, ef, q⟩ => by cases ef
theorem hu65 {k : Nat} {A : Around} (r : Room k A) : A.units + 65 < cLine := by have := r.un; omega

def NoNx (F : Fs) : Prop := ∀ γ γ', F γ ≠ some (.nx γ')
theorem noNx_ret {f : Ex} : NoNx (sRet f) := fun γ γ' h => by
  unfold sRet at h
  obtain ⟨p, _, e⟩ := Option.map_eq_some_iff.mp h
  cases e
theorem noNx_no : NoNx sNo := fun γ γ' h => by cases h
theorem noNx_seq {F G : Fs} (h : NoNx G) : NoNx (sSeq F G) := fun γ γ' e => by
  unfold sSeq at e
  split at e
  · exact h _ _ e
  · rename_i h2
    exact h2 _ e
theorem noNx_if {c : Tx} {F G : Fs} (h1 : NoNx F) (h2 : NoNx G) : NoNx (sIf c F G) := fun γ γ' e => by
  unfold sIf at e
  obtain ⟨p, _, e⟩ := Option.bind_eq_some_iff.mp e
  split at e
  · exact h1 _ _ e
  · exact h2 _ _ e
theorem noNx_kill {i : Nat} {F : Fs} (h : NoNx F) : NoNx (sKill i F) := fun γ γ' e => h _ _ e

/-! ### values of the module that stay -/
def CstV (K : PySem.W.Frag) (t : T) (u : Value) : Prop := ∃ v : V, RelV v u ∧ ∀ G, Rep K G t v
def Cst (K : PySem.W.Frag) (mg : Str → Option Value) (x : Str) (t : T) : Prop := ∃ u : Value, mg x = some u ∧ CstV K t u
inductive CstVs (K : PySem.W.Frag) : List T → List Value → Prop
  | nil : CstVs K [] []
  | cons {t ts u us} : CstV K t u → CstVs K ts us → CstVs K (t :: ts) (u :: us)
theorem CstVs.get {K : PySem.W.Frag} {ts : List T} {us : List Value} (h : CstVs K ts us) : ∃ vs : List V, Vals vs us ∧ ∀ G, Reps K G ts vs := by
  induction h with
  | nil => exact ⟨[], .nil, fun _ => Reps.nil⟩
  | cons a _ ih =>
    obtain ⟨v, h1, h2⟩ := a
    obtain ⟨vs, h3, h4⟩ := ih
    exact ⟨v :: vs, .cons h1 h3, fun G => Reps.cons (h2 G) (h4 G)⟩
theorem CstVs.length {K : PySem.W.Frag} {ts : List T} {us : List Value} (h : CstVs K ts us) : us.length = ts.length := by
  induction h with
  | nil => rfl
  | cons _ _ ih => rw [List.length_cons, List.length_cons, ih]
theorem cv_int {K : PySem.W.Frag} {i : Int} {t : Nat} : CstV K (.int i) (.int i t) := ⟨.int i, ⟨t, rfl⟩, fun _ => Rep.int⟩
theorem cv_str {K : PySem.W.Frag} {x : Str} {t : Nat} : CstV K (.str x) (.str x t) := ⟨.str x, ⟨t, rfl⟩, fun _ => Rep.str⟩
theorem cv_bl {K : PySem.W.Frag} {b : Bool} : CstV K (.bl b) (.bool b) := ⟨.bl b, rfl, fun _ => Rep.bl⟩
theorem cv_non {K : PySem.W.Frag} : CstV K .non Value.none := ⟨.non, rfl, fun _ => by unfold Rep; rfl⟩
theorem cv_tup {K : PySem.W.Frag} {ts : List T} {us : List Value} {its : Array Value} {a : Addr} {d : Option Addr} {n : Nat} {sl : Array (Option Value)} (l : K.lookup a = some ⟨.type "tuple", d, .seq its n, sl⟩) (e : its.toList = us) (h : CstVs K ts us) (hs : ts.length ≤ sizeLine := by decide) : CstV K (.tup ts) (.ref a) := by
  obtain ⟨vs, h1, h2⟩ := h.get
  refine ⟨.ref a, rfl, fun G => ?_⟩
  unfold Rep
  refine ⟨a, vs, rfl, .inr ⟨_, its, n, l, rfl, rfl, ?_, e ▸ h1⟩, h2 G⟩
  rw [← h.length, ← e] at hs
  simpa using hs
theorem cst_mk {K : PySem.W.Frag} {h : Heap} {mg : Str → Option Value} {x : Str} {u : Value} {t : T} (X : K.In h) (G : h.Ns mainGlobals mg) (a : PySem.W.nsIn K mainGlobals x = some (some u)) (c : CstV K t u) : Cst K mg x t := ⟨u, PySem.W.mg_of X G a, c⟩
theorem sx_cst {X : Cx} {x : Str} {pos : Pos} {t : T} {κ : List Bool} (hg : Gl X x) (hm : Cst X.K X.mg x t) (hd : (x == ("__debug__" : Str)) = false := by decide) : SX X (.Name x pos) false [] [] κ (eLit t) := by
  obtain ⟨u, h1, v, h2, h3⟩ := hm
  exact sx_glob hg h1 h2 h3 hd
end Tw

namespace Zf
open PySem
open Sem (wp)
section
variable {M : Model} {A : Around} {E : Value → Shared → Prop} {s : Shared} {env : Env}
theorem callWith_typeKw0 {pos : Pos} {T : String} {first : List Value} {args : List (Bool × Sem Value)} {keywords : List (Option Str × Sem Value)} {Q : Value → Shared → Prop}
    (hplain : args.any (·.1) = false) (hkw : keywords.any (·.1.isNone) = false)
    (h : wpAny M A (evalArgs (.type T) true args keywords) (fun a s₁ => wpAny M A (call (.type T) (first ++ a.pos) a.kw) Q E s₁) E s) :
    wpAny M A (callWith pos (.type T) first args keywords) Q E s := by
  unfold callWith
  refine wpAny_bind (wpAny_holding (wpAny_mono h (fun a s₁ h₁ => wpAny_bind (wpAny_standAt ?_)) fun _ _ x => x))
  simp only [hplain, hkw, Bool.or_false]
  refine wpAny_bind (wpAny_pure ?_)
  exact wpAny_bind (wpAny_mono h₁ (fun r s₂ hr => wpAny_bind (wpAny_holding (wpAny_point (wpAny_pure hr)))) fun _ _ x => x)
theorem callWith_typeKw {pos : Pos} {T : String} {e : Expr} {rest : List Expr} {kws : List Keyword} {Q : Value → Shared → Prop}
    (h : wpAny M A (spliced (backTo pos (starEach (e :: rest) env))) (fun vs s₁ => wpAny M A (evalAll ((backToKw pos (keywordEach kws env)).map (·.2)))
      (fun kvs s₂ => wpAny M A (call (.type T) vs (((backToKw pos (keywordEach kws env)).filterMap (·.1)).zip kvs)) Q E s₂) E s₁) E s)
    (he : backTo pos (starEach (e :: rest) env) = (false, eval e env) :: backTo pos (starEach rest env) := by rfl)
    (hplain : (backTo pos (starEach (e :: rest) env)).any (·.1) = false := by rfl)
    (hall : (backToKw pos (keywordEach kws env)).all (·.1.isSome) = true := by rfl)
    (hkw : (backToKw pos (keywordEach kws env)).any (·.1.isNone) = false := by rfl) :
    wpAny M A (callWith pos (.type T) [] (backTo pos (starEach (e :: rest) env)) (backToKw pos (keywordEach kws env))) Q E s := by
  refine callWith_typeKw0 hplain hkw ?_
  rw [he] at h ⊢
  exact PyProof.Rows.evalArgs_kwB hall h
end
theorem typeCall_zipF (a b : Value) : checkTypeCall "zip" ⟨[a, b], [(Str.ofString "strict", .bool false)]⟩ = pure () := by kernel_rfl
theorem newCall_zipF (a b : Value) : checkBuiltinCall "zip.__new__" ⟨[.type "zip", a, b], [(Str.ofString "strict", .bool false)]⟩ = pure () := by kernel_rfl
theorem args_initF (o a b : Value) : argsOk "object.__init__" ⟨[o, a, b], [(Str.ofString "strict", .bool false)]⟩ := by unfold argsOk; kernel_rfl
set_option maxHeartbeats 4000000 in
theorem meets_zip_newF (l1 l2 : Addr) (xs ys : Array Value) :
    Meets (Builtin.«zip.__new__» ⟨[.type "zip", .ref l1, .ref l2], [(Str.ofString "strict", .bool false)]⟩) (fun _ R s => s.heap.IsList l1 xs ∧ s.heap.IsList l2 ys ∧
      R (.ok (.ret (.ref (zipH4 s.heap l1 l2).objs.size))) { s with heap := zipH5 s.heap l1 l2 }) :=
  .of_wp fun prog w A R s h => by
    obtain ⟨hp, g, d, tk, os⟩ := s; obtain ⟨hl1, hl2, h⟩ := h
    have hsub := sub_zip
    have hL1 : Heap.IsList (Shared.heap ⟨hp, g, d, tk, os⟩) l1 xs := hl1
    have hL2 : Heap.IsList (Shared.heap ⟨hp.push { cls := .type "list_iterator", data := .fields #[.ref l1, .int 0 0] }, g, d, tk, os⟩) l2 ys := Heap.IsList.push hl2 _
    have e1 : (Str.ofString "strict" != ("strict" : Str)) = false := by decide +kernel
    wp_walk using wpAny_pyIter_list hL1, wpAny_pyIter_list hL2
    exact ⟨_, rfl, h⟩
section
variable {prog : Program} {w : World} {A : Around} {E : Value → Shared → Prop} {s : Shared}
theorem call_zip_2F {l1 l2 : Addr} {xs ys : Array Value} {Q : Value → Shared → Prop} (hl1 : s.heap.IsList l1 xs) (hl2 : s.heap.IsList l2 ys)
    (h : ∀ h', IsZip h' (s.heap.objs.size + 4) (s.heap.objs.size + 2) (s.heap.objs.size + 3) .none → IsPair h' (s.heap.objs.size + 2) (.ref s.heap.objs.size) (.ref (s.heap.objs.size + 1)) →
      IsPair h' (s.heap.objs.size + 3) .none .none → h'.IsListIter s.heap.objs.size l1 0 → h'.IsListIter (s.heap.objs.size + 1) l2 0 → h'.objs.size = s.heap.objs.size + 5 →
      (∀ c o, s.heap.get? c = some o → h'.get? c = some o) → Q (.ref (s.heap.objs.size + 4)) { s with heap := h' }) :
    wpAny (model prog w) A (call (.type "zip") [.ref l1, .ref l2] [(Str.ofString "strict", .bool false)]) Q E s := by
  refine callType_newKw F.called_zip (by decide) (typeCall_zipF _ _) (newCall_zipF _ _) (fun obj => args_initF obj _ _) F.entry_zip_new
    (meets_zip_newF l1 l2 xs ys) ⟨hl1, hl2, ?_⟩
  have z1 : (zipH1 s.heap l1).objs.size = s.heap.objs.size + 1 := Heap.size_push ..
  have z2 : (zipH2 s.heap l1 l2).objs.size = s.heap.objs.size + 2 := by rw [Heap.size_push, z1]
  have z3 : (zipH3 s.heap l1 l2).objs.size = s.heap.objs.size + 3 := by rw [Heap.size_push, z2]
  have z4 : (zipH4 s.heap l1 l2).objs.size = s.heap.objs.size + 4 := by rw [Heap.size_push, z3]
  have z5 : (zipH5 s.heap l1 l2).objs.size = s.heap.objs.size + 5 := by rw [Heap.size_push, z4]
  have g5 : (zipH5 s.heap l1 l2).get? (zipH4 s.heap l1 l2).objs.size = some _ := Heap.get?_push_size _ rfl
  have g4 : (zipH5 s.heap l1 l2).get? (zipH3 s.heap l1 l2).objs.size = some _ := Heap.get?_push_of_some _ (Heap.get?_push_size _ rfl)
  have g3 : (zipH5 s.heap l1 l2).get? (zipH2 s.heap l1 l2).objs.size = some _ := Heap.get?_push_of_some _ (Heap.get?_push_of_some _ (Heap.get?_push_size _ rfl))
  have g2 : (zipH5 s.heap l1 l2).get? (zipH1 s.heap l1).objs.size = some _ := Heap.get?_push_of_some _ (Heap.get?_push_of_some _ (Heap.get?_push_of_some _ (Heap.get?_push_size _ rfl)))
  have g1 : (zipH5 s.heap l1 l2).get? s.heap.objs.size = some _ := Heap.get?_push_of_some _ (Heap.get?_push_of_some _ (Heap.get?_push_of_some _ (Heap.get?_push_of_some _ (Heap.get?_push_size _ rfl))))
  show _ ∧ _
  rw [z2, z3, z4] at g5
  rw [z1, z2] at g3
  rw [z3] at g4
  rw [z1] at g2
  rw [z4]
  exact ⟨⟨_, g5, rfl⟩, h _ g5 g3 g4 ⟨_, g1, rfl, rfl⟩ ⟨_, g2, rfl, rfl⟩ z5 fun c o x =>
    Heap.get?_push_of_some _ (Heap.get?_push_of_some _ (Heap.get?_push_of_some _ (Heap.get?_push_of_some _ (Heap.get?_push_of_some _ x))))⟩
end
end Zf
namespace Tw
open PySem PySem.Spec PyProof.Rows L2
theorem pi_zipF' {X : Cx} {e e2 : Expr} {ta : TA} {p pos tpos cp kp : Pos} {elts : List Expr} {kk : Nat} {j} (hg : Gl X "zip") (hm : X.mg "zip" = none) (ha : PA X [e, e2] ta)
    (hs : starEach [e, e2] X.env = (false, eval e X.env) :: starEach [e2] X.env := by rfl) (hpl : (backTo pos (starEach [e, e2] X.env)).any (·.1) = false := by rfl)
    (he : backTo pos (starEach [e, e2] X.env) = (false, eval e X.env) :: backTo pos (starEach [e2] X.env) := by rfl) :
    PI X (.Tuple elts kk tpos) (.Call (.Name "zip" p) [e, e2] [⟨some "strict", .Constant (.bool false) j cp, kp⟩] pos) (iZip X.K ta) := by
  refine ⟨fun pins s σ H R I h => ?_⟩
  refine PySem.wpAny_Call_Name_kw (ld_blt I hg hm PyProof.Rows.boot_zip (Zf.callWith_typeKw (thn (ha.run pos pins s σ H _ I h) fun us s1 ⟨vs, H1, I1, r1, q1⟩ => ?_) he hpl))
  refine PyProof.Rows.kws_cons (thn (pe_bl.run pins s1 σ H1 (fun v H2 => v = .bl false ∧ H2 = H1) I1 ⟨rfl, rfl⟩) fun v s2 ⟨v', H2, I2, rv, e1, e2⟩ => PyProof.Rows.kws_nil ?_)
  subst e1 e2
  obtain rfl : v = Value.bool false := rv
  obtain ⟨a, b, xs, ys, ex, hqx, hqy, q⟩ := q1
  subst ex
  cases r1 with
  | cons r rr =>
    cases rr with
    | cons r' rr =>
      cases rr
      cases r
      cases r'
      obtain ⟨its, rv, p1, _⟩ := I2.list hqx
      obtain ⟨its2, rv2, p2, _⟩ := I2.list hqy
      have la : a < s2.heap.objs.size := p1.lt
      have lb : b < s2.heap.objs.size := p2.lt
      refine Zf.call_zip_2F p1.isList p2.isList fun h' hz hTI hTO h1 h2 hsz hk => PySem.wpAny_pyIter_zip hz ?_
      have I3 : Inv X pins σ H2 { s2 with heap := h' } := I2.kept (t' := s2.toks) hk
      refine ⟨s2.heap.objs.size + 4, [s2.heap.objs.size + 4, s2.heap.objs.size + 2, s2.heap.objs.size + 3, s2.heap.objs.size, s2.heap.objs.size + 1], _, _, H2, rfl, I3, turn_zip (PySem.W.ktu_apart s2.heap.objs.size a b la lb), ⟨hz, hTI, ⟨_, _, hTO⟩, h1, h2⟩, fun c hcm => ?_, q⟩
      have e' : c = s2.heap.objs.size + 4 ∨ c = s2.heap.objs.size + 2 ∨ c = s2.heap.objs.size + 3 ∨ c = s2.heap.objs.size ∨ c = s2.heap.objs.size + 1 := by simpa using hcm
      have hle : s2.heap.objs.size ≤ c := by
        rcases e' with z | z | z | z | z
        · rw [z]; exact Nat.le_add_right _ _
        · rw [z]; exact Nat.le_add_right _ _
        · rw [z]; exact Nat.le_add_right _ _
        · rw [z]; exact Nat.le_refl _
        · rw [z]; exact Nat.le_add_right _ _
      exact I2.fpOk hle (I2.hok.fresh hle)
/-- zip of two lists -/
def zipT (ts us : List T) : List T := List.zipWith (fun t u => T.tup [t, u]) ts us
def iZipL (f g : Ex) : Ix := fun γ => match f γ with
  | some (.lst ts, γ1) => match g γ1 with
    | some (.lst us, γ2) => some (zipT ts us, γ2)
    | _ => none
  | _ => none
section
variable {X : Cx} {κ : List Bool} {f1 f2 : Ex} {B1 B2 M1 M2 : List Nat} {a b : Expr} {p pos tpos cp kp : Pos}
theorem zip_of {elts : List Expr} {kk : Nat} {ta tb : TE} {tg e : Expr} (hp : ∀ {ta tb : TE}, PE X a ta → PE X b tb → PI X tg e (iZip X.K (tCons ta (tCons tb tNil)))) (ha : SX X a false B1 M1 κ f1) (hb : SX X b false B2 M2 κ f2) (hd : ∀ i, i ∈ B1 → i ∉ M2) :
    SI X tg e (B1 ++ B2) (M1 ++ M2) κ (iZipL f1 f2) := PI.weak (hp ha hb) fun σ H R ⟨N, G, γ, r, γ', S, ef, q⟩ => by
  unfold iZipL at ef
  split at ef
  case h_2 => cases ef
  rename_i ts γ1 e1
  split at ef
  case h_2 => cases ef
  rename_i us γ2 e2
  cases ef
  refine ⟨N, G, γ, _, _, S, e1, fun v G1 H1 s1 S1 k1 r1 => ⟨N, G1, γ1, _, _, S1, e2, fun v2 G2 H2 s2 S2 k2 r2 => ?_⟩⟩
  have r1' := r1.rdy.mono s2 (fun i hi => k2 i (hd i hi)) (fun _ h => h)
  obtain ⟨a, vs, rfl, h1, h2⟩ := rdy_walk S2 r1'
  obtain ⟨b, ws, rfl, g1, g2⟩ := rdy_walk S2 r2.rdy
  refine ⟨a, b, vs, ws, rfl, h1, g1, q _ G2 H2 (s1.trans s2) S2 (k1.trans k2) fun i N3 G3 κ3 σ3 H3 γ3 s3 S3 hB => ?_⟩
  obtain ⟨vs2, h3, h4⟩ := h2 N3 G3 κ3 σ3 H3 γ3 s3 S3 fun j hj => hB j (List.mem_append_left _ hj)
  obtain ⟨ws2, g3, g4⟩ := g2 N3 G3 κ3 σ3 H3 γ3 s3 S3 fun j hj => hB j (List.mem_append_right _ hj)
  refine ⟨fun t ht => ?_, fun hi => ⟨vs2, ws2, h3, g3, ?_⟩⟩
  · unfold zipT at ht
    rw [List.getElem?_zipWith_eq_some] at ht
    obtain ⟨t0, u0, ht0, hu0, rfl⟩ := ht
    obtain ⟨v0, h5, h6⟩ := h4.get ht0
    obtain ⟨w0, g5, g6⟩ := g4.get hu0
    refine ⟨⟨vs2, ws2, v0, w0, h3, g3, h5, g5⟩, fun x H4 ⟨Tt, x0, y0, e1, e2, e3, e4, e5⟩ => ?_⟩
    have a1 := e4 vs2 h3
    rw [h5] at a1
    cases a1
    have a2 := e5 ws2 g3
    rw [g5] at a2
    cases a2
    subst e1 e3
    exact S3.tupled e2 (.cons h6 (.cons g6 .nil))
  · unfold zipT at hi
    rw [List.length_zipWith] at hi
    rw [h4.length, g4.length]
    omega
theorem si_zip {elts : List Expr} {kk : Nat} (hg : Gl X "zip") (hm : X.mg "zip" = none) (ha : SX X a false B1 M1 κ f1) (hb : SX X b false B2 M2 κ f2) (hd : ∀ i, i ∈ B1 → i ∉ M2 := by decide)
    (hs : starEach [a, b] X.env = (false, eval a X.env) :: starEach [b] X.env := by rfl) (hs2 : starEach [b] X.env = (false, eval b X.env) :: starEach [] X.env := by rfl) (hpl : (backTo pos (starEach [b] X.env)).any (·.1) = false := by rfl) :
    SI X (.Tuple elts kk tpos) (.Call (.Name "zip" p) [a, b] [] pos) (B1 ++ B2) (M1 ++ M2) κ (iZipL f1 f2) :=
  zip_of (elts := elts) (kk := kk) (ta := tVar 0) (tb := tVar 0) (fun ha hb => pi_zip hg hm (pa_cons ha (pa_cons hb pa_nil hs2) hs) hs hpl) ha hb hd
theorem si_zipF {elts : List Expr} {kk : Nat} {j} (hg : Gl X "zip") (hm : X.mg "zip" = none) (ha : SX X a false B1 M1 κ f1) (hb : SX X b false B2 M2 κ f2) (hd : ∀ i, i ∈ B1 → i ∉ M2 := by decide)
    (hs : starEach [a, b] X.env = (false, eval a X.env) :: starEach [b] X.env := by rfl) (hs2 : starEach [b] X.env = (false, eval b X.env) :: starEach [] X.env := by rfl) (hpl : (backTo pos (starEach [a, b] X.env)).any (·.1) = false := by rfl)
    (he : backTo pos (starEach [a, b] X.env) = (false, eval a X.env) :: backTo pos (starEach [b] X.env) := by rfl) :
    SI X (.Tuple elts kk tpos) (.Call (.Name "zip" p) [a, b] [⟨some "strict", .Constant (.bool false) j cp, kp⟩] pos) (B1 ++ B2) (M1 ++ M2) κ (iZipL f1 f2) :=
  zip_of (elts := elts) (kk := kk) (ta := tVar 0) (tb := tVar 0) (fun ha hb => pi_zipF' hg hm (pa_cons ha (pa_cons hb pa_nil hs2) hs) hs hpl he) ha hb hd
end
/-- insert -/
def gIns : T → List T → Option (T × T)
  | .lst ts, [.int i, u] => if ts.length < sizeLine ∧ 0 ≤ i ∧ i < 2 ^ 63 then some (.non, .lst (ts.take i.toNat ++ [u] ++ ts.drop i.toNat)) else none
  | _, _ => none
theorem mu_ins {K : PySem.W.Frag} : MutT K (fun x vs H Q => ∃ (l : Addr) (xs : List V) (i : Int) (y : V), x = .ref l ∧ vs = [.int i, y] ∧ H l = some (.lst xs) ∧ xs.length < sizeLine ∧ 0 ≤ i ∧ i < 2 ^ 63 ∧
    Q .non (upd H l (.lst (xs.take i.toNat ++ [y] ++ xs.drop i.toNat)))) gIns := by
  intro N G κ σ H γ ts xs a o t res t' S r ha ho e Q q
  unfold gIns at e
  split at e
  · split at e <;> cases e
    rename_i ts i u hz
    obtain ⟨vs, rfl, r1⟩ := ho
    unfold Reps at r
    obtain ⟨v, w, rfl, r2, r3⟩ := r
    unfold Rep at r2
    subst r2
    unfold Reps at r3
    obtain ⟨v2, w2, rfl, r4, r5⟩ := r3
    unfold Reps at r5
    subst r5
    exact ⟨a, vs, i, v2, rfl, rfl, ha, by rw [r1.length]; exact hz.1, hz.2.1, hz.2.2, q _ _ ⟨_, rfl, ((r1.take _).append (.cons r4 .nil)).append (r1.drop _)⟩ .non⟩
  · cases e
end Tw

namespace Tw
open PySem PySem.Spec PyProof.Rows L2
/-! ### sorted of any data -/
def pLe : V × PyData → V × PyData → Bool := PySem.W.dataLe false (fun p : V × PyData => p.2)
def rSortD (K : PySem.W.Frag) : List V → Hp → VK → Prop := fun xs H Q => ∃ (a : Addr) (bs : List (V × PyData)), xs = [.ref a] ∧ SqL K H a (bs.map (·.1)) ∧ (∀ b ∈ bs, Dp K H b.1 b.2) ∧ PySem.W.AllAlike (bs.map (·.2)) ∧ PySem.W.Sortable (bs.map (·.2)) ∧ (∀ b ∈ bs, b.2.depth ≤ 60) ∧
  ∀ p, H p = none → Q (.ref p) (upd H p (.lst ((bs.mergeSort pLe).map (·.1))))
section
variable {X : Cx}
theorem each_of {s : Shared} {pins : List (Addr × Obj)} {σ : L2.St} {H : Hp} (I : Inv X pins σ H s) : ∀ {bs : List (V × PyData)} {its : List Value}, Vals (bs.map (·.1)) its → (∀ b ∈ bs, Dp X.K H b.1 b.2) →
    PySem.W.EachIs (fun v (b : V × PyData) => RelV b.1 v) its bs ∧ PySem.W.EachIs (fun v (b : V × PyData) => ∃ as, Reads s.heap v b.2 as) its bs
  | [], its, r, _ => by
    cases r
    exact ⟨.nil, .nil⟩
  | b :: bs, its, r, h => by
    cases r with
    | cons r1 r2 =>
      obtain ⟨e1, e2⟩ := each_of I r2 fun b hb => h b (List.mem_cons_of_mem _ hb)
      exact ⟨.cons r1 e1, .cons (Dp.reads I b.2 b.1 _ (h b (List.mem_cons_self ..)) r1) e2⟩
theorem vals_each : ∀ {bs : List (V × PyData)} {its : List Value}, PySem.W.EachIs (fun v (b : V × PyData) => RelV b.1 v) its bs → Vals (bs.map (·.1)) its
  | [], _, .nil => .nil
  | b :: bs, _, .cons r1 r2 => .cons r1 (vals_each r2)
theorem cr_sortD (hu : X.A.units + 65 < cLine) : CallR X (.builtin "sorted") (rSortD X.K) := by
  intro pins s σ H vs us Q I r h
  obtain ⟨a, bs, rfl, hs, hd, hal, hk, hdp, q⟩ := h
  obtain ⟨its, rv, hl, hz⟩ := I.list hs
  rw [Vals.ref1 r]
  obtain ⟨e1, e2⟩ := each_of I rv hd
  rw [List.length_map] at hz
  refine PySem.W.sorted_data (enc := fun p : V × PyData => p.2) hl.isList e1 e2 hal hk hz (fun b hb => ?_) fun out ho eo => ?_
  · have := hdp b hb
    show X.A.units + 2 + b.2.depth < cLine
    omega
  · obtain ⟨ep, he'⟩ := PyProof.Rows.sortedAll_at s.heap its out.toArray
    have hv := vals_each eo
    have hlen : ((bs.mergeSort pLe).map (·.1)).length ≤ sizeLine := by
      rw [List.length_map, List.length_mergeSort]
      exact hz
    exact ⟨.ref _, upd H (s.heap.objs.size + 1) (.lst ((bs.mergeSort pLe).map (·.1))), I.laid (t' := s.toks) (fun _ _ => PyProof.Rows.sortedAll_old) (Nat.le_succ _) ⟨hlen, out, ep, hv, he'⟩, rfl, q _ (I.hok.fresh (Nat.le_succ _))⟩
end
open Classical in
/-- sorted of a list -/
noncomputable def gSortD : List T → Option T
  | [.lst ts] => if ts.all okT = true ∧ PySem.W.AllAlike (toDs ts) ∧ PySem.W.Sortable (toDs ts) then some (.lst (ts.mergeSort (PySem.W.dataLe false toD))) else none
  | _ => none
section
variable {K : PySem.W.Frag}
theorem call_sortD {X : Cx} (hu : X.A.units + 65 < cLine) : CallR X (.builtin "sorted") (rSortD X.K) := cr_sortD hu
theorem toDs_map : ∀ ts : List T, toDs ts = ts.map toD
  | [] => rfl
  | t :: ts => by show toD t :: toDs ts = _; rw [toDs_map ts]; rfl
theorem reps_pairs {G H : Hp} (h : Same G H) : ∀ {ts : List T} {vs : List V}, Reps K G ts vs → ts.all okT = true → (∀ b ∈ vs.zip (ts.map toD), Dp K H b.1 b.2 ∧ b.2.depth ≤ 60)
  | [], vs, r, _ => by simp
  | t :: ts, vs, r, e => by
    unfold Reps at r
    obtain ⟨v, r', rfl, a, b⟩ := r
    rw [List.all_cons, Bool.and_eq_true] at e
    intro b' hb
    simp only [List.map_cons, List.zip_cons_cons, List.mem_cons] at hb
    rcases hb with rfl | hb
    · obtain ⟨d, _, p⟩ := dp_of h 60 t v e.1 a
      exact ⟨d, p⟩
    · exact reps_pairs h b e.2 b' hb
theorem reps_of_pairs {G : Hp} : ∀ {ps : List (V × T)}, (∀ p ∈ ps, Rep K G p.2 p.1) → Reps K G (ps.map (·.2)) (ps.map (·.1))
  | [], _ => Reps.nil
  | p :: ps, h => Reps.cons (h p (List.mem_cons_self ..)) (reps_of_pairs fun q hq => h q (List.mem_cons_of_mem _ hq))
theorem pairs_rep {G : Hp} : ∀ {ts : List T} {vs : List V}, Reps K G ts vs → ∀ p ∈ vs.zip ts, Rep K G p.2 p.1
  | [], vs, r => by simp
  | t :: ts, vs, r => by
    unfold Reps at r
    obtain ⟨v, r', rfl, a, b⟩ := r
    intro p hp
    rw [List.zip_cons_cons, List.mem_cons] at hp
    rcases hp with rfl | hp
    · exact a
    · exact pairs_rep b p hp
theorem fn_sortD : FnT K (rSortD K) true gSortD := by
  intro N G κ σ H γ B ts tz xs S r e Q q
  unfold gSortD at e
  split at e
  · rename_i us
    split at e <;> cases e
    rename_i hg
    obtain ⟨g1, g2, g3⟩ := hg
    obtain ⟨v, rfl, r1⟩ := r.one
    obtain ⟨a, vs, rfl, h1, r2⟩ := r1.list S
    have hl := r2.length
    have z1 : (vs.zip (us.map toD)).map (·.1) = vs := List.map_fst_zip (by rw [List.length_map]; omega)
    have z2 : (vs.zip (us.map toD)).map (·.2) = toDs us := by rw [toDs_map]; exact List.map_snd_zip (by rw [List.length_map]; omega)
    have hp := reps_pairs S.le r2 g1
    refine ⟨a, vs.zip (us.map toD), rfl, ?_, fun b hb => (hp b hb).1, by rw [z2]; exact g2, by rw [z2]; exact g3, fun b hb => (hp b hb).2, fun p hn => ?_⟩
    · rw [z1]
      exact .inl (.inl h1)
    · -- the same order on values, on data, on trees
      have em : ∀ (ps : List (V × T)), ((ps.map fun p => (p.1, toD p.2)).mergeSort pLe).map (·.1) = (ps.mergeSort fun x y => PySem.W.dataLe false toD x.2 y.2).map (·.1) := by
        intro ps
        have : (ps.map fun p => (p.1, toD p.2)).mergeSort pLe = (ps.mergeSort fun x y => PySem.W.dataLe false toD x.2 y.2).map fun p => (p.1, toD p.2) := by
          symm
          exact List.map_mergeSort fun _ _ _ _ => rfl
        rw [this, List.map_map]
        rfl
      have e2 : vs.zip (us.map toD) = (vs.zip us).map fun p => (p.1, toD p.2) := by
        rw [List.zip_map_right]
        rfl
      have e3 : (vs.zip us).map (·.2) = us := List.map_snd_zip (by omega)
      have e4 : us.mergeSort (PySem.W.dataLe false toD) = ((vs.zip us).mergeSort fun x y => PySem.W.dataLe false toD x.2 y.2).map (·.2) := by
        conv => lhs; rw [← e3]
        symm
        exact List.map_mergeSort fun _ _ _ _ => rfl
      have rr : Reps K G (us.mergeSort (PySem.W.dataLe false toD)) (((vs.zip (us.map toD)).mergeSort pLe).map (·.1)) := by
        rw [e2, em, e4]
        refine reps_of_pairs fun p hp => ?_
        exact pairs_rep r2 p ((List.mergeSort_perm _ _).mem_iff.mp hp)
      obtain ⟨S', f⟩ := S.listed hn rr
      exact q _ G _ (Same.refl _) S' (.new f)
  · cases e
end
/-! ### walks over a list or a tuple, as it comes -/
def iAnyL (K : PySem.W.Frag) (te : TE) : TI := fun σ H R => te σ H fun v H1 => ∃ a, v = .ref a ∧ ((∃ xs, SqL K H1 a xs ∧ R (Itl K a) H1) ∨ (∃ xs, SqT K H1 a xs ∧ R (Itt K a) H1))
theorem pi_any {X : Cx} {tg l : Expr} {tl : TE} (hl : PE X l tl) : PI X tg l (iAnyL X.K tl) := by
  refine ⟨fun pins s σ H R I h => ?_⟩
  refine thn (hl.run pins s σ H _ I h) fun v s1 ⟨x, H1, I1, r1, q1⟩ => ?_
  obtain ⟨a, e, q⟩ := q1
  subst e
  cases r1
  rcases q with ⟨xs, hq, q⟩ | ⟨xs, hq, q⟩
  · obtain ⟨its, rv, p, hz⟩ := I1.list hq
    refine wpAny_pyIter_list p.isList ?_
    refine ⟨s1.heap.objs.size, [s1.heap.objs.size], _, _, H1, rfl, I1.kept (t' := s1.toks) fun b o e => Heap.get?_push_of_some _ e, turn_list a _, ⟨_, Heap.get?_push_size _ rfl, rfl, rfl⟩, fun b hb => ?_, q⟩
    have e : b = s1.heap.objs.size := by simpa using hb
    subst e
    exact I1.fpOk (Nat.le_refl _) (I1.hok.fresh (Nat.le_refl _))
  · obtain ⟨its, rv, p, hz⟩ := I1.tuple hq
    refine wpAny_pyIter_tuple (show s1.heap.IsTuple a its.toArray from p) ?_
    refine ⟨s1.heap.objs.size, [s1.heap.objs.size], _, _, H1, rfl, I1.kept (t' := s1.toks) fun b o e => Heap.get?_push_of_some _ e, turn_tuple a _, ⟨_, Heap.get?_push_size _ rfl, rfl, rfl⟩, fun b hb => ?_, q⟩
    have e : b = s1.heap.objs.size := by simpa using hb
    subst e
    exact I1.fpOk (Nat.le_refl _) (I1.hok.fresh (Nat.le_refl _))
def iAny (f : Ex) : Ix := fun γ => match f γ with
  | some (.lst ts, γ') => some (ts, γ')
  | some (.tup ts, γ') => some (ts, γ')
  | _ => none
theorem si_any {X : Cx} {tge e : Expr} {M : List Nat} {κ : List Bool} {f : Ex} (h : SX X e false [] M κ f) : SI X tge e [] M κ (iAny f) := PI.weak (pi_any h) fun σ H R ⟨N, G, γ, r, γ', S, ef, q⟩ => by
  unfold iAny at ef
  split at ef
  · rename_i ts γ1 e1
    cases ef
    refine ⟨N, G, γ, _, _, S, e1, fun v G1 H1 s1 S1 k1 r1 => ?_⟩
    obtain ⟨a, vs, rfl, h1, h2⟩ := wk_rdy S1 r1.rdy
    exact ⟨a, rfl, .inl ⟨vs, h1, q _ G1 H1 s1 S1 k1 h2⟩⟩
  · rename_i ts γ1 e1
    cases ef
    refine ⟨N, G, γ, _, _, S, e1, fun v G1 H1 s1 S1 k1 r1 => ?_⟩
    have r2 := r1.rdy.rep
    unfold Rep at r2
    obtain ⟨a, vs, rfl, h1, h2⟩ := r2
    exact ⟨a, rfl, .inr ⟨vs, Same.tup S1.le h1, q _ G1 H1 s1 S1 k1 (wk_tup h1 h2)⟩⟩
  · cases ef
end Tw

namespace Tw
open PySem PySem.Spec PyProof.Rows L2
/-! comprehensions with two fors -/
section
variable {X : Cx} {K : PySem.W.Frag} {N N' : Nt} {G G' H H' : Hp} {σ σ' : L2.St} {γ γ' : En} {ts us : List T} {vs : List V} {t : T} {v : V}
variable {κ κ1 κ2 κb : List Bool} {rk : Bool} {pl io own own1 L L1 : List Nat} {pk : List Bool} {F F1 F2 : Fs} {st : Stmt} {rest body : List Stmt} {D D' : Ends} {o : Out}
variable {e a b c : Expr} {es : List Expr} {pos p apos cpos pos' : Pos} {m : Bool} {B B1 B2 M M1 M2 M3 M4 M5 M6 : List Nat} {f f1 f2 f3 : Ex} {g1 g2 : Ax} {c1 c2 : Tx} {x name : Str}
/-- the turns of a comprehension -/
theorem comp_turns' {J : It} {tg : T → En → Option En} {g : TG} {test : Tx} {tt : TT} {elt : Ex} {te : TE} {items : List T} {res : List T} {γe : En} {Dd : Addr} {Qd : Hp → Prop} {acc0 : List T} {vs0 : List V}
    (hg : ∀ v σ H Q, cG K L κ κ tg v σ H Q → g v σ H Q) (ht : ∀ σ H Q, cT K M2 κ test σ H Q → tt σ H Q) (he : ∀ σ H Q, cE K false [] M3 κ elt σ H Q → te σ H Q)
    (hL : ∀ j : Nat, j ∈ L → j ∈ own) (hk : ∀ j : Nat, j ∈ own → κ[j]? = some false) (hB : ∀ j : Nat, j ∈ B → j ∉ M2 ∧ j ∉ M3 ∧ j ∉ own)
    (hw : Wk K κ σ γ B items G J) (hBk : ∀ j : Nat, j ∈ B → κ[j]? = some true) (S0 : Sta K N G κ σ H γ) (d0 : H Dd = some (.lst vs0)) (r0 : Reps K G acc0 vs0) (n0 : G Dd = none) (hND : N.H Dd = none) (u0 : ∀ (j : Nat) (u : T), κ[j]? = some true → γ[j]? = some (some u) → σ[j]? ≠ some (some (V.ref Dd))) (ho : compL own tg test elt items γ acc0 = some (res, γe))
    (q2 : ∀ G' H' vs, Same G G' → Sta K N G' κ σ H' γe → Keeps (M2 ++ M3) γ γe → H' Dd = some (.lst vs) → Reps K G' res vs → G' Dd = none → (∀ (j : Nat) (u : T), κ[j]? = some true → γe[j]? = some (some u) → σ[j]? ≠ some (some (V.ref Dd))) → Qd H') :
    ∃ W : Nat → Nat → Hp → Prop, (∃ m, W 0 m H) ∧ ∀ i m H, W i m H →
      (J.stop i H ∧ Qd H) ∨ (J.go i H ∧ ∃ Nx : Hp → Prop, (∀ H', Nx H' → ∃ m', m' < m ∧ W (i + 1) m' H') ∧ ∀ x H', J.yld i H x H' → g x (wipe σ own) H' fun σ2 H2 => wipe σ2 own = wipe σ own ∧ tt σ2 H2 fun b H3 =>
        if b = true then te σ2 H3 fun y H4 => ∃ acc, H4 Dd = some (.lst acc) ∧ acc.length < sizeLine ∧ Nx (upd H4 Dd (.lst (acc ++ [y]))) else Nx H3) := by
  refine ⟨fun i m H1 => m + i = items.length ∧ ∃ G1 γ1 acc vs, Same G G1 ∧ Sta K N G1 κ σ H1 γ1 ∧ Keeps (M2 ++ M3) γ γ1 ∧ H1 Dd = some (.lst vs) ∧ Reps K G1 acc vs ∧ G1 Dd = none ∧ (∀ (j : Nat) (u : T), κ[j]? = some true → γ1[j]? = some (some u) → σ[j]? ≠ some (some (V.ref Dd))) ∧ compL own tg test elt (items.drop i) γ1 acc = some (res, γe),
    ⟨items.length, rfl, G, γ, acc0, vs0, Same.refl _, S0, .refl _ _, d0, r0, n0, u0, by simpa using ho⟩, fun i m H1 ⟨hm, G1, γ1, acc, vs, s1, S1, k1, d1, r1, n1, u1, h1⟩ => ?_⟩
  obtain ⟨w1, w2⟩ := hw i N G1 κ σ H1 γ1 s1 S1 (fun j hj => ⟨hBk j hj, k1 j (by rw [List.mem_append, not_or]; exact ⟨(hB j hj).1, (hB j hj).2.1⟩), rfl⟩)
  by_cases hi : i < items.length
  · have hit : items[i]? = some items[i] := List.getElem?_eq_getElem hi
    obtain ⟨wg, wy⟩ := w1 _ hit
    refine .inr ⟨wg, fun H1 => (m - 1) + (i + 1) = items.length ∧ ∃ G1 γ1 acc vs, Same G G1 ∧ Sta K N G1 κ σ H1 γ1 ∧ Keeps (M2 ++ M3) γ γ1 ∧ H1 Dd = some (.lst vs) ∧ Reps K G1 acc vs ∧ G1 Dd = none ∧ (∀ (j : Nat) (u : T), κ[j]? = some true → γ1[j]? = some (some u) → σ[j]? ≠ some (some (V.ref Dd))) ∧ compL own tg test elt (items.drop (i + 1)) γ1 acc = some (res, γe),
      fun H' h => ⟨m - 1, by omega, h⟩, fun x H2 hy => ?_⟩
    obtain ⟨pins, R1, p1, p2, p3, p4⟩ := S1.reroot
    obtain ⟨_, p5⟩ := w1 _ hit
    have w1' := hw i ⟨H1, G1, pins⟩ G1 κ σ H1 γ1 s1 R1 (fun j hj => ⟨hBk j hj, k1 j (by rw [List.mem_append, not_or]; exact ⟨(hB j hj).1, (hB j hj).2.1⟩), rfl⟩)
    obtain ⟨G2, s2, R2, r2⟩ := (w1'.1 _ hit).2 x H2 hy
    have hDp : Dd ∉ pins.map (·.2) := fun hb => by
      obtain ⟨⟨j, a⟩, hq, e⟩ := List.mem_map.mp hb
      cases e
      obtain ⟨q1, ⟨u, q2⟩, q3⟩ := R1.pin _ hq
      exact u1 j u q1 q2 q3
    rw [List.drop_eq_getElem_cons hi] at h1
    unfold compL at h1
    obtain ⟨γ2, e2, h1⟩ := Option.bind_eq_some_iff.mp h1
    have nown : ∀ j, j ∈ own → j ∉ pins.map (·.1) := fun j hj hb => by
      obtain ⟨q, hq, e⟩ := List.mem_map.mp hb
      have := p1 q hq
      rw [e, hk j hj] at this
      cases this
    have R2w := R2.wiped nown
    refine hg _ _ _ _ ⟨⟨H1, G1, pins⟩, G2, wipeE γ1 own, _, γ2, fun j hj => nown j (hL j hj), R2w, r2, e2, fun σ2 R3 hσ => ?_⟩
    have l2 : σ2.length = σ.length := by
      have a1 := R2w.len
      have a2 := R3.len
      have a3 := R2w.klen
      have a4 := R3.klen
      rw [wipe_length] at a1
      omega
    have hσ2 : wipe σ2 own = wipe σ own := wipe_eq l2 fun j hj => by rw [(hσ j fun z => hj (hL j z)).1, wipe_ne hj]
    refine ⟨hσ2, ?_⟩
    · obtain ⟨⟨b, γ3⟩, e3, h1⟩ := Option.bind_eq_some_iff.mp h1
      have kw : ∀ j, j ∉ own → γ2[j]? = γ1[j]? := fun j hj => ((hσ j fun z => hj (hL j z)).2).trans (wipeE_ne hj)
      refine ht _ _ _ ⟨⟨H1, G1, pins⟩, G2, γ2, b, γ3, R3, e3, fun G3 H3 s3 R4 k3 => ?_⟩
      have dD : ∀ {G4 H4 γ4}, Sta K ⟨H1, G1, pins⟩ G4 κ σ2 H4 γ4 → H4 Dd = some (.lst vs) ∧ G4 Dd = none := fun {G4 H4 γ4} R => by
        refine ⟨R.frm Dd _ d1 hDp, ?_⟩
        cases z : G4 Dd with
        | none => rfl
        | some o =>
          rcases R.gfr Dd (by rw [z]; simp) with y | y
          · exact absurd n1 y
          · have y' : H1 Dd = none := y
            rw [d1] at y'
            cases y'
      have nD : ∀ {G4 H4 γ4}, Sta K ⟨H1, G1, pins⟩ G4 κ σ H4 γ4 → ∀ (j : Nat) (u : T), κ[j]? = some true → γ4[j]? = some (some u) → σ[j]? ≠ some (some (V.ref Dd)) := fun {G4 H4 γ4} R j u k g e => by
        obtain ⟨a, o, q1, _, _, _, q5⟩ := R.own j u k g
        rw [e] at q1
        cases q1
        rcases q5 with q5 | q5
        · have y' : H1 Dd = none := q5
          rw [d1] at y'
          cases y'
        · exact hDp q5
      have step : ∀ {G4 H4 γ4}, Same G1 G4 → Sta K ⟨H1, G1, pins⟩ G4 κ σ2 H4 γ4 → Sta K ⟨H1, G1, pins⟩ G4 κ σ H4 (backE γ1 γ4 own) := fun {G4 H4 γ4} s R =>
        Sta.backed R1 R s hσ2 l2 hk
      cases b with
      | false =>
        dsimp only at h1 ⊢
        rw [if_neg Bool.false_ne_true] at h1 ⊢
        obtain ⟨y1, y2⟩ := dD R4
        have R5 := step (s2.trans s3) R4
        refine ⟨by omega, G3, _, acc, vs, (s1.trans s2).trans s3, S1.unroot R5 p2 p3, fun j hj => ?_, y1, r1.mono (s2.trans s3), y2, nD R5, h1⟩
        rw [List.mem_append, not_or] at hj
        have l3 : γ3.length = γ1.length := by
          have a1 := R4.klen
          have a2 := R1.klen
          omega
        by_cases hjo : j ∈ own
        · rw [backE_at hjo l3]
          exact k1 j (by rw [List.mem_append, not_or]; exact hj)
        · rw [backE_ne hjo, k3 j hj.1, kw j hjo]
          exact k1 j (by rw [List.mem_append, not_or]; exact hj)
      | true =>
        dsimp only at h1 ⊢
        rw [if_pos rfl] at h1 ⊢
        obtain ⟨⟨y, γ4⟩, e4, h1⟩ := Option.bind_eq_some_iff.mp h1
        refine he _ _ _ ⟨⟨H1, G1, pins⟩, G3, γ3, y, γ4, R4, e4, fun v G4 H4 s4 R5 k4 ry => ?_⟩
        split at h1
        · rename_i hz
          obtain ⟨y1, y2⟩ := dD R5
          have R6 := step ((s2.trans s3).trans s4) R5
          refine ⟨vs, y1, by rw [r1.length]; exact hz, by omega, G4, _, acc ++ [y], vs ++ [v], ((s1.trans s2).trans s3).trans s4, ?_, fun j hj => ?_, upd_same, (r1.mono ((s2.trans s3).trans s4)).append (.cons ry.rdy.rep .nil), y2, nD R6, h1⟩
          · have S6 := S1.unroot R6 p2 p3
            -- D is nobody's
            refine ⟨fun b x e => ?_, S6.len, S6.shr, fun j u k g => ?_, S6.sep, S6.klen, S6.pin, fun b x e n => ?_, S6.gle, S6.gfr⟩
            · rw [upd_ne (fun z => by rw [z, y2] at e; cases e)]
              exact S6.le b x e
            · obtain ⟨a, ob, q1, q2, q3, q4⟩ := S6.own j u k g
              refine ⟨a, ob, q1, q2, ?_, q4⟩
              rw [upd_ne]
              · exact q3
              · rintro rfl; exact nD R6 j u k g q1
            · rw [upd_ne]
              · exact S6.frm b x e n
              · rintro rfl; rw [hND] at e; cases e
          · rw [List.mem_append, not_or] at hj
            have l3 : γ4.length = γ1.length := by
              have a1 := R5.klen
              have a2 := R1.klen
              omega
            by_cases hjo : j ∈ own
            · rw [backE_at hjo l3]
              exact k1 j (by rw [List.mem_append, not_or]; exact hj)
            · rw [backE_ne hjo, k4 j hj.2, k3 j hj.1, kw j hjo]
              exact k1 j (by rw [List.mem_append, not_or]; exact hj)
        · cases h1
  · refine .inl ⟨w2 (by omega), ?_⟩
    rw [List.drop_eq_nil_of_le (by omega)] at h1
    cases h1
    exact q2 G1 H1 vs s1 S1 k1 d1 r1 n1 u1

def compL2 (own own1 : List Nat) (tg : T → En → Option En) (test : Tx) (src1 : Ix) (tg1 : T → En → Option En) (test1 : Tx) (elt : Ex) : List T → En → List T → Option (List T × En)
  | [], γ, acc => some (acc, γ)
  | t :: ts, γ, acc => (tg t (wipeE γ own)).bind fun γ1 => (test γ1).bind fun p => if p.1 then (src1 p.2).bind fun q => (compL own1 tg1 test1 elt q.1 q.2 acc).bind fun r => compL2 own own1 tg test src1 tg1 test1 elt ts (backE γ r.2 own) r.1
      else compL2 own own1 tg test src1 tg1 test1 elt ts (backE γ p.2 own) acc
def eComp2 (own own1 : List Nat) (src : Ix) (tg : T → En → Option En) (test : Tx) (src1 : Ix) (tg1 : T → En → Option En) (test1 : Tx) (elt : Ex) : Ex := fun γ => (src γ).bind fun p => (compL2 own own1 tg test src1 tg1 test1 elt p.1 p.2 []).map fun q => (.lst q.1, q.2)
/-- the turns of the outer for -/
theorem comp_turns2 {J : It} {tg tg1 : T → En → Option En} {g g1 : TG} {test test1 : Tx} {tt tt1 : TT} {wi1 : TI} {src1 : Ix} {elt : Ex} {te : TE} {items : List T} {res : List T} {γe : En} {Dd : Addr} {Qd : Hp → Prop}
    (hg : ∀ v σ H Q, cG K L κ κ tg v σ H Q → g v σ H Q) (ht : ∀ σ H Q, cT K M2 κ test σ H Q → tt σ H Q) (hi1 : ∀ σ H R, cI K [] M4 κ src1 σ H R → wi1 σ H R) (hg1 : ∀ v σ H Q, cG K L1 κ κ tg1 v σ H Q → g1 v σ H Q) (ht1 : ∀ σ H Q, cT K M5 κ test1 σ H Q → tt1 σ H Q) (he : ∀ σ H Q, cE K false [] M3 κ elt σ H Q → te σ H Q) (hL1 : ∀ j : Nat, j ∈ L1 → j ∈ own1) (ho1 : ∀ j : Nat, j ∈ own1 → j ∈ own)
    (hL : ∀ j : Nat, j ∈ L → j ∈ own) (hk : ∀ j : Nat, j ∈ own → κ[j]? = some false) (hB : ∀ j : Nat, j ∈ B → j ∉ M2 ++ (M4 ++ (M5 ++ M3)) ∧ j ∉ own)
    (hw : Wk K κ σ γ B items G J) (hBk : ∀ j : Nat, j ∈ B → κ[j]? = some true) (S : Sta K N G κ σ H γ) (hD : H Dd = none) (ho : compL2 own own1 tg test src1 tg1 test1 elt items γ [] = some (res, γe))
    (q2 : ∀ G' H' vs, Same G G' → Sta K N G' κ σ H' γe → Keeps (M2 ++ (M4 ++ (M5 ++ M3))) γ γe → H' Dd = some (.lst vs) → Reps K G' res vs → G' Dd = none → (∀ (j : Nat) (u : T), κ[j]? = some true → γe[j]? = some (some u) → σ[j]? ≠ some (some (V.ref Dd))) → Qd H') :
    ∃ W : Nat → Nat → Hp → Prop, (∃ m, W 0 m (upd H Dd (.lst []))) ∧ ∀ i m H, W i m H →
      (J.stop i H ∧ Qd H) ∨ (J.go i H ∧ ∃ Nx : Hp → Prop, (∀ H', Nx H' → ∃ m', m' < m ∧ W (i + 1) m' H') ∧ ∀ x H', J.yld i H x H' → g x (wipe σ own) H' fun σ2 H2 => wipe σ2 own = wipe σ own ∧ tt σ2 H2 fun b H3 =>
        if b = true then wi1 σ2 H3 fun J1 H4 => ∃ W1 : Nat → Nat → Hp → Prop, (∃ m, W1 0 m H4) ∧ ∀ j k H, W1 j k H →
      (J1.stop j H ∧ Nx H) ∨ (J1.go j H ∧ ∃ Nx1 : Hp → Prop, (∀ H', Nx1 H' → ∃ k', k' < k ∧ W1 (j + 1) k' H') ∧ ∀ x H', J1.yld j H x H' → g1 x (wipe σ2 own1) H' fun σ3 H5 => wipe σ3 own1 = wipe σ2 own1 ∧ tt1 σ3 H5 fun b H6 =>
        if b = true then te σ3 H6 fun y H7 => ∃ acc, H7 Dd = some (.lst acc) ∧ acc.length < sizeLine ∧ Nx1 (upd H7 Dd (.lst (acc ++ [y]))) else Nx1 H6) else Nx H3) := by
  have S0 : Sta K N G κ σ (upd H Dd (.lst [])) γ := S.laid hD
  have hDf := S.fresh hD
  refine ⟨fun i m H1 => m + i = items.length ∧ ∃ G1 γ1 acc vs, Same G G1 ∧ Sta K N G1 κ σ H1 γ1 ∧ Keeps (M2 ++ (M4 ++ (M5 ++ M3))) γ γ1 ∧ H1 Dd = some (.lst vs) ∧ Reps K G1 acc vs ∧ G1 Dd = none ∧ (∀ (j : Nat) (u : T), κ[j]? = some true → γ1[j]? = some (some u) → σ[j]? ≠ some (some (V.ref Dd))) ∧ compL2 own own1 tg test src1 tg1 test1 elt (items.drop i) γ1 acc = some (res, γe),
    ⟨items.length, rfl, G, γ, [], [], Same.refl _, S0, .refl _ _, upd_same, .nil, hDf.1, fun j u k g e => ?_, by simpa using ho⟩, fun i m H1 ⟨hm, G1, γ1, acc, vs, s1, S1, k1, d1, r1, n1, u1, h1⟩ => ?_⟩
  · obtain ⟨a, o, e1, _, e3, _⟩ := S.own j u k g
    rw [e] at e1
    cases e1
    rw [hD] at e3
    cases e3
  obtain ⟨w1, w2⟩ := hw i N G1 κ σ H1 γ1 s1 S1 (fun j hj => ⟨hBk j hj, k1 j (hB j hj).1, rfl⟩)
  by_cases hi : i < items.length
  · have hit : items[i]? = some items[i] := List.getElem?_eq_getElem hi
    obtain ⟨wg, wy⟩ := w1 _ hit
    refine .inr ⟨wg, fun H1 => (m - 1) + (i + 1) = items.length ∧ ∃ G1 γ1 acc vs, Same G G1 ∧ Sta K N G1 κ σ H1 γ1 ∧ Keeps (M2 ++ (M4 ++ (M5 ++ M3))) γ γ1 ∧ H1 Dd = some (.lst vs) ∧ Reps K G1 acc vs ∧ G1 Dd = none ∧ (∀ (j : Nat) (u : T), κ[j]? = some true → γ1[j]? = some (some u) → σ[j]? ≠ some (some (V.ref Dd))) ∧ compL2 own own1 tg test src1 tg1 test1 elt (items.drop (i + 1)) γ1 acc = some (res, γe),
      fun H' h => ⟨m - 1, by omega, h⟩, fun x H2 hy => ?_⟩
    obtain ⟨pins, R1, p1, p2, p3, p4⟩ := S1.reroot
    obtain ⟨_, p5⟩ := w1 _ hit
    have w1' := hw i ⟨H1, G1, pins⟩ G1 κ σ H1 γ1 s1 R1 (fun j hj => ⟨hBk j hj, k1 j (hB j hj).1, rfl⟩)
    obtain ⟨G2, s2, R2, r2⟩ := (w1'.1 _ hit).2 x H2 hy
    have hDp : Dd ∉ pins.map (·.2) := fun hb => by
      obtain ⟨⟨j, a⟩, hq, e⟩ := List.mem_map.mp hb
      cases e
      obtain ⟨q1, ⟨u, q2⟩, q3⟩ := R1.pin _ hq
      exact u1 j u q1 q2 q3
    rw [List.drop_eq_getElem_cons hi] at h1
    unfold compL2 at h1
    obtain ⟨γ2, e2, h1⟩ := Option.bind_eq_some_iff.mp h1
    have nown : ∀ j, j ∈ own → j ∉ pins.map (·.1) := fun j hj hb => by
      obtain ⟨q, hq, e⟩ := List.mem_map.mp hb
      have := p1 q hq
      rw [e, hk j hj] at this
      cases this
    have R2w := R2.wiped nown
    refine hg _ _ _ _ ⟨⟨H1, G1, pins⟩, G2, wipeE γ1 own, _, γ2, fun j hj => nown j (hL j hj), R2w, r2, e2, fun σ2 R3 hσ => ?_⟩
    have l2 : σ2.length = σ.length := by
      have a1 := R2w.len
      have a2 := R3.len
      have a3 := R2w.klen
      have a4 := R3.klen
      rw [wipe_length] at a1
      omega
    have hσ2 : wipe σ2 own = wipe σ own := wipe_eq l2 fun j hj => by rw [(hσ j fun z => hj (hL j z)).1, wipe_ne hj]
    refine ⟨hσ2, ?_⟩
    · obtain ⟨⟨b, γ3⟩, e3, h1⟩ := Option.bind_eq_some_iff.mp h1
      have kw : ∀ j, j ∉ own → γ2[j]? = γ1[j]? := fun j hj => ((hσ j fun z => hj (hL j z)).2).trans (wipeE_ne hj)
      refine ht _ _ _ ⟨⟨H1, G1, pins⟩, G2, γ2, b, γ3, R3, e3, fun G3 H3 s3 R4 k3 => ?_⟩
      have dD : ∀ {G4 H4 γ4}, Sta K ⟨H1, G1, pins⟩ G4 κ σ2 H4 γ4 → H4 Dd = some (.lst vs) ∧ G4 Dd = none := fun {G4 H4 γ4} R => by
        refine ⟨R.frm Dd _ d1 hDp, ?_⟩
        cases z : G4 Dd with
        | none => rfl
        | some o =>
          rcases R.gfr Dd (by rw [z]; simp) with y | y
          · exact absurd n1 y
          · have y' : H1 Dd = none := y
            rw [d1] at y'
            cases y'
      have nD : ∀ {G4 H4 γ4}, Sta K ⟨H1, G1, pins⟩ G4 κ σ H4 γ4 → ∀ (j : Nat) (u : T), κ[j]? = some true → γ4[j]? = some (some u) → σ[j]? ≠ some (some (V.ref Dd)) := fun {G4 H4 γ4} R j u k g e => by
        obtain ⟨a, o, q1, _, _, _, q5⟩ := R.own j u k g
        rw [e] at q1
        cases q1
        rcases q5 with q5 | q5
        · have y' : H1 Dd = none := q5
          rw [d1] at y'
          cases y'
        · exact hDp q5
      have step : ∀ {G4 H4 γ4}, Same G1 G4 → Sta K ⟨H1, G1, pins⟩ G4 κ σ2 H4 γ4 → Sta K ⟨H1, G1, pins⟩ G4 κ σ H4 (backE γ1 γ4 own) := fun {G4 H4 γ4} s R =>
        Sta.backed R1 R s hσ2 l2 hk
      cases b with
      | false =>
        dsimp only at h1 ⊢
        rw [if_neg Bool.false_ne_true] at h1 ⊢
        obtain ⟨y1, y2⟩ := dD R4
        have R5 := step (s2.trans s3) R4
        refine ⟨by omega, G3, _, acc, vs, (s1.trans s2).trans s3, S1.unroot R5 p2 p3, fun j hj0 => ?_, y1, r1.mono (s2.trans s3), y2, nD R5, h1⟩
        have hj := hj0
        rw [List.mem_append, not_or] at hj
        have l3 : γ3.length = γ1.length := by
          have a1 := R4.klen
          have a2 := R1.klen
          omega
        by_cases hjo : j ∈ own
        · rw [backE_at hjo l3]
          exact k1 j hj0
        · rw [backE_ne hjo, k3 j hj.1, kw j hjo]
          exact k1 j hj0
      | true =>
        dsimp only at h1 ⊢
        rw [if_pos rfl] at h1 ⊢
        obtain ⟨⟨items1, γ4⟩, e4, h1⟩ := Option.bind_eq_some_iff.mp h1
        obtain ⟨⟨res1, γ5⟩, e5, h1⟩ := Option.bind_eq_some_iff.mp h1
        refine hi1 _ _ _ ⟨⟨H1, G1, pins⟩, G3, γ3, items1, γ4, R4, e4, fun J1 G4 H4 s4 R5 k4 w5 => ?_⟩
        obtain ⟨y1, y2⟩ := dD R5
        have S5 : Sta K N G4 κ σ2 H4 γ4 := S1.unroot R5 p2 p3
        have u5 : ∀ (j : Nat) (u : T), κ[j]? = some true → γ4[j]? = some (some u) → σ2[j]? ≠ some (some (V.ref Dd)) := fun j u k g e => by
          obtain ⟨a, o, q1, _, _, _, q5⟩ := R5.own j u k g
          rw [e] at q1
          cases q1
          rcases q5 with q5 | q5
          · have y' : H1 Dd = none := q5
            rw [d1] at y'
            cases y'
          · exact hDp q5
        refine comp_turns' (M2 := M5) (M3 := M3) hg1 ht1 he hL1 (fun j hj => hk j (ho1 j hj)) (fun j hj => by cases hj) w5 (fun j hj => by cases hj) S5 y1 (r1.mono ((s2.trans s3).trans s4)) y2 hDf.2.1 u5 e5 fun G6 H6 vs6 s6 S6 k6 d6 r6 n6 u6 => ?_
        have sA : Same G1 G6 := ((s2.trans s3).trans s4).trans s6
        have l6 : γ5.length = γ1.length := by
          have a1 := S6.klen
          have a2 := S1.klen
          omega
        refine ⟨by omega, G6, _, res1, vs6, s1.trans sA, Sta.backed S1 S6 sA hσ2 l2 hk, fun j hj => ?_, d6, r6, n6, fun j u k g => ?_, h1⟩
        · have hj' := hj
          rw [List.mem_append, not_or, List.mem_append, not_or, List.mem_append, not_or] at hj'
          by_cases hjo : j ∈ own
          · rw [backE_at hjo l6]
            exact k1 j hj
          · rw [backE_ne hjo, k6 j (by rw [List.mem_append, not_or]; exact ⟨hj'.2.2.1, hj'.2.2.2⟩), k4 j hj'.2.1, k3 j hj'.1, kw j hjo]
            exact k1 j hj
        · have n : j ∉ own := fun z => by rw [hk _ z] at k; cases k
          rw [backE_ne n] at g
          have es : σ2[j]? = σ[j]? := by rw [← wipe_ne (σ := σ2) n, hσ2, wipe_ne n]
          rw [← es]
          exact u6 j u k g
  · refine .inl ⟨w2 (by omega), ?_⟩
    rw [List.drop_eq_nil_of_le (by omega)] at h1
    cases h1
    exact q2 G1 H1 vs s1 S1 k1 d1 r1 n1 u1

theorem lc2_of {wi wi1 : TI} {g g1 : TG} {tt tt1 : TT} {te : TE} {tg tg1 : T → En → Option En} {test test1 : Tx} {elt : Ex} {src src1 : Ix} {M : List Nat}
    (hi : ∀ σ H R, cI K B M κ src σ H R → wi σ H R) (hg : ∀ v σ H Q, cG K L κ κ tg v σ H Q → g v σ H Q) (ht : ∀ σ H Q, cT K M2 κ test σ H Q → tt σ H Q)
    (hi1 : ∀ σ H R, cI K [] M4 κ src1 σ H R → wi1 σ H R) (hg1 : ∀ v σ H Q, cG K L1 κ κ tg1 v σ H Q → g1 v σ H Q) (ht1 : ∀ σ H Q, cT K M5 κ test1 σ H Q → tt1 σ H Q) (he : ∀ σ H Q, cE K false [] M3 κ elt σ H Q → te σ H Q)
    (hL : ∀ j : Nat, j ∈ L → j ∈ own) (hL1 : ∀ j : Nat, j ∈ L1 → j ∈ own1) (ho1 : ∀ j : Nat, j ∈ own1 → j ∈ own) (hk : ∀ j : Nat, j ∈ own → κ[j]? = some false) (hB : ∀ j : Nat, j ∈ B → j ∉ M2 ++ (M4 ++ (M5 ++ M3)) ∧ j ∉ own) (hBk : ∀ j : Nat, j ∈ B → κ[j]? = some true) :
    ∀ σ H Q, cE K true [] (M ++ (M2 ++ (M4 ++ (M5 ++ M3)))) κ (eComp2 own own1 src tg test src1 tg1 test1 elt) σ H Q → tLc2 wi g tt wi1 g1 tt1 te own own1 σ H Q := by
  intro σ H Q ⟨N, G, γ, r, γ', S, ef, q⟩
  unfold eComp2 at ef
  obtain ⟨⟨items, γ1⟩, e1, ef⟩ := Option.bind_eq_some_iff.mp ef
  obtain ⟨⟨res, γe⟩, e2, ef⟩ := Option.map_eq_some_iff.mp ef
  cases ef
  refine hi _ _ _ ⟨N, G, γ, items, γ1, S, e1, fun J G1 H1 s1 S1 k1 w1 Dd hD => ?_⟩
  refine comp_turns2 hg ht hi1 hg1 ht1 he hL1 ho1 hL hk hB w1 hBk S1 hD e2 fun G' H' vs s2 S2 k2 d2 r2 n2 u2 => ?_
  refine q _ G' H' (s1.trans s2) S2 (k1.trans k2) (.new ⟨Dd, _, rfl, n2, d2, ⟨vs, rfl, r2⟩, (S1.fresh hD).2.1, u2⟩)
theorem sx_lc2 {elt tge iter tge1 iter1 : Expr} {ifs ifs1 : List Expr} {scope : Scope} {own' : List (Str × Nat)} {vs1 : List Nat} {tg tg1 : T → En → Option En} {test test1 : Tx} {el : Ex} {src src1 : Ix} {M : List Nat} (hc : X.calm = true) (hN : X.N.Nodup) (hi : SI X tge iter B M κ src) (ok : BlkOk X.N X.env.scope scope own')
    (hg : ∀ (s : Shared) (H : Hp) (C : Addr) (cl : List (Str × Addr)) (fp : List Addr), SG (X.blk s H scope (compEnvC scope cl C X.env) fp) tge L κ κ tg) (ht : ∀ (s : Shared) (H : Hp) (C : Addr) (cl : List (Str × Addr)) (fp : List Addr), STs (X.blk s H scope (compEnvC scope cl C X.env) fp) ifs M2 κ test)
    (hi1 : ∀ (s : Shared) (H : Hp) (C : Addr) (cl : List (Str × Addr)) (fp : List Addr), SI (X.blk s H scope (compEnvC scope cl C X.env) fp) tge1 iter1 [] M4 κ src1) (hg1 : ∀ (s : Shared) (H : Hp) (C : Addr) (cl : List (Str × Addr)) (fp : List Addr), SG (X.blk s H scope (compEnvC scope cl C X.env) fp) tge1 L1 κ κ tg1) (ht1 : ∀ (s : Shared) (H : Hp) (C : Addr) (cl : List (Str × Addr)) (fp : List Addr), STs (X.blk s H scope (compEnvC scope cl C X.env) fp) ifs1 M5 κ test1)
    (he : ∀ (s : Shared) (H : Hp) (C : Addr) (cl : List (Str × Addr)) (fp : List Addr), SX (X.blk s H scope (compEnvC scope cl C X.env) fp) elt false [] M3 κ el)
    (hL : ∀ j, j ∈ L → j ∈ own'.map (·.2) := by decide) (hL1 : ∀ j, j ∈ L1 → j ∈ vs1 := by decide) (ho1 : ∀ j, j ∈ vs1 → j ∈ own'.map (·.2) := by decide) (hk : ∀ j, j ∈ own'.map (·.2) → κ[j]? = some false := by decide) (hB : ∀ j, j ∈ B → j ∉ M2 ++ (M4 ++ (M5 ++ M3)) ∧ j ∉ own'.map (·.2) := by decide) (hBk : ∀ j, j ∈ B → κ[j]? = some true := by decide) (hs : ∀ x, foldedSetIterable iter X.env x = pure x := by intro _; rfl) (hs1 : ∀ env x, foldedSetIterable iter1 env x = pure x := by intro _ _; rfl) :
    SX X (.ListComp elt [⟨tge, iter, ifs, 0⟩, ⟨tge1, iter1, ifs1, 0⟩] scope pos) true [] (M ++ (M2 ++ (M4 ++ (M5 ++ M3)))) κ (eComp2 (own'.map (·.2)) vs1 src tg test src1 tg1 test1 el) :=
  PE.weak (pe_lc2 hc hN hi ok ho1 hg ht hi1 hg1 ht1 he hs hs1) (lc2_of (fun _ _ _ h => h) (fun _ _ _ _ h => h) (fun _ _ _ h => h) (fun _ _ _ h => h) (fun _ _ _ _ h => h) (fun _ _ _ h => h) (fun _ _ _ h => h) hL hL1 ho1 hk hB hBk)
/-- name = [.. for .. for ..] on one line -/
theorem ss_setLc2 (i : Nat) {y : Str} {py : Pos} {elt tge iter tge1 iter1 : Expr} {ifs ifs1 : List Expr} {scope : Scope} {own' : List (Str × Nat)} {vs1 : List Nat} {tg tg1 : T → En → Option En} {test test1 : Tx} {el : Ex} {src src1 : Ix} {M : List Nat} {spos : Pos} (k : Bool) (hc : X.calm = true) (hN : X.N.Nodup) (hi : SI X tge iter B M κ src) (ok : BlkOk X.N X.env.scope scope own')
    (hg : ∀ (s : Shared) (H : Hp) (C : Addr) (cl : List (Str × Addr)) (fp : List Addr), SG (X.blk s H scope (compEnvC scope cl C X.env) fp) tge L κ κ tg) (ht : ∀ (s : Shared) (H : Hp) (C : Addr) (cl : List (Str × Addr)) (fp : List Addr), STs (X.blk s H scope (compEnvC scope cl C X.env) fp) ifs M2 κ test)
    (hi1 : ∀ (s : Shared) (H : Hp) (C : Addr) (cl : List (Str × Addr)) (fp : List Addr), SI (X.blk s H scope (compEnvC scope cl C X.env) fp) tge1 iter1 [] M4 κ src1) (hg1 : ∀ (s : Shared) (H : Hp) (C : Addr) (cl : List (Str × Addr)) (fp : List Addr), SG (X.blk s H scope (compEnvC scope cl C X.env) fp) tge1 L1 κ κ tg1) (ht1 : ∀ (s : Shared) (H : Hp) (C : Addr) (cl : List (Str × Addr)) (fp : List Addr), STs (X.blk s H scope (compEnvC scope cl C X.env) fp) ifs1 M5 κ test1)
    (he : ∀ (s : Shared) (H : Hp) (C : Addr) (cl : List (Str × Addr)) (fp : List Addr), SX (X.blk s H scope (compEnvC scope cl C X.env) fp) elt false [] M3 κ el)
    (hsw : swapsWith (.ListComp elt [⟨tge, iter, ifs, 0⟩, ⟨tge1, iter1, ifs1, 0⟩] scope pos) (some (.Name y py)) spos.line X.env = pure true) (hy : X.N[i]? = some y := by rfl) (hyl : X.env.scope.names.lookup y = some .local := by rfl) (hkl : i < κ.length := by decide) (hp : i ∉ pl := by decide)
    (hL : ∀ j, j ∈ L → j ∈ own'.map (·.2) := by decide) (hL1 : ∀ j, j ∈ L1 → j ∈ vs1 := by decide) (ho1 : ∀ j, j ∈ vs1 → j ∈ own'.map (·.2) := by decide) (hk : ∀ j, j ∈ own'.map (·.2) → κ[j]? = some false := by decide) (hB : ∀ j, j ∈ B → j ∉ M2 ++ (M4 ++ (M5 ++ M3)) ∧ j ∉ own'.map (·.2) := by decide) (hBk : ∀ j, j ∈ B → κ[j]? = some true := by decide) (hs : ∀ x, foldedSetIterable iter X.env x = pure x := by intro _; rfl) (hs1 : ∀ env x, foldedSetIterable iter1 env x = pure x := by intro _ _; rfl) :
    SS X (.Assign [.Name y py] (.ListComp elt [⟨tge, iter, ifs, 0⟩, ⟨tge1, iter1, ifs1, 0⟩] scope pos) spos) κ (κ.set i k) κb rk pl (sAsg i (eComp2 (own'.map (·.2)) vs1 src tg test src1 tg1 test1 el)) :=
  PS.weak (ps_setLc2 hc hN hy hyl hsw hi ok ho1 hg ht hi1 hg1 ht1 he hs hs1) fun D σ H ⟨N, G, γ, o, hp', S, ef, q⟩ => by
  unfold sAsg at ef
  obtain ⟨⟨t1, γ1⟩, e1, ef⟩ := Option.map_eq_some_iff.mp ef
  cases ef
  refine lc2_of (M := M) (fun _ _ _ h => h) (fun _ _ _ _ h => h) (fun _ _ _ h => h) (fun _ _ _ h => h) (fun _ _ _ _ h => h) (fun _ _ _ h => h) (fun _ _ _ h => h) hL hL1 ho1 hk hB hBk σ H _ ⟨N, G, γ, t1, γ1, S, e1, fun v G1 H1 s1 S1 k1 r1 => ?_⟩
  cases k with
  | true => exact q _ H1 G1 s1 (S1.storeO (len_of S1 hkl) (hp' ▸ hp) r1.fre)
  | false =>
    obtain ⟨G2, s2, S2, rp⟩ := r1.fre.lasts S1
    exact q _ H1 G2 (s1.trans s2) (S2.store (len_of S2 hkl) (hp' ▸ hp) rp)
end
end Tw

/-! a comparison with three signs, as a test -/
namespace L2
open PySem PySem.Spec PyProof.Rows
section
variable {X : Cx} {a b c d : Expr} {ta tb tc td : TE} {pos : Pos}
def tChain3 (r r' r2 : R2) (ta tb tc td : TE) : TT := fun σ H Q => ta σ H fun x H1 => tb σ H1 fun y H2 => r x y H2 fun z H3 => ∃ k, z = .bl k ∧
  (if k = true then tc σ H3 fun w H4 => r' y w H4 fun z H5 => ∃ k, z = .bl k ∧ (if k = true then td σ H5 fun u H6 => r2 w u H6 fun z H7 => ∃ k, z = .bl k ∧ Q k H7 else Q false H5) else Q false H3)
theorem pt_chain3 {op op' op2 : CmpOp} {r r' r2 : R2} (ho : OpR X (compareOp op) r) (ho' : OpR X (compareOp op') r') (ho2 : OpR X (compareOp op2) r2) (ha : PE X a ta) (hb : PE X b tb) (hc : PE X c tc) (hd : PE X d td)
    (hm : lastMarks [op, op', op2] [b, c, d] = false := by with_unfolding_all rfl) : PT X (.Compare a [op, op', op2] [b, c, d] pos) (tChain3 r r' r2 ta tb tc td) := by
  refine ⟨fun pins s σ H Q I h => ?_⟩
  refine isTrue_chain (thn (ha.run pins s σ H _ I h) fun v s1 ⟨x, H1, I1, r1, q1⟩ => test_link (thn (hb.run pins s1 σ H1 _ I1 q1) fun u s2 ⟨y, H2, I2, rr, q2⟩ =>
    thn (ho pins s2 σ H2 x y v u _ I2 r1 rr q2) fun d s3 ⟨z, H3, I3, r3, k, e, q3⟩ => ?_)) hm
  subst e
  cases r3
  refine wpAny_truthy_bool ?_
  cases k with
  | false => exact ite_ff ⟨H3, I3, q3⟩
  | true =>
    refine ite_tt (test_link (thn (hc.run pins s3 σ H3 _ I3 q3) fun w' s4 ⟨z', H4, I4, r4, q4⟩ => thn (ho' pins s4 σ H4 y z' u w' _ I4 rr r4 q4) fun d' s5 ⟨z2, H5, I5, r5, k2, e2, q5⟩ => ?_))
    subst e2
    cases r5
    refine wpAny_truthy_bool ?_
    cases k2 with
    | false => exact ite_ff ⟨H5, I5, q5⟩
    | true =>
      refine ite_tt (test_last (thn (hd.run pins s5 σ H5 _ I5 q5) fun w6 s6 ⟨z6, H6, I6, r6, q6⟩ => thn (ho2 pins s6 σ H6 z' z6 w' w6 _ I6 r4 r6 q6) fun d7 s7 ⟨z7, H7, I7, r7, k7, e7, q7⟩ => ?_))
      subst e7
      cases r7
      exact wpAny_truthy_bool ⟨H7, I7, q7⟩
end
end L2
namespace Tw
open PySem PySem.Spec PyProof.Rows L2
section
variable {X : Cx} {K : PySem.W.Frag} {N : Nt} {G G' H H' : Hp} {σ : L2.St} {γ γ' : En} {ts : List T} {vs : List V} {t : T} {v : V}
variable {κ : List Bool} {a b c d : Expr} {pos : Pos} {B B1 B2 B3 M M1 M2 M3 M4 : List Nat} {f f1 f2 f3 f4 : Ex}
def eChain3 (g g' g2 : T → T → Option T) (a b c d : Ex) : Ex := fun γ => (a γ).bind fun p => (b p.2).bind fun q => match g p.1 q.1 with
  | some (.bl true) => (c q.2).bind fun r => (match g' q.1 r.1 with
    | some (.bl true) => (d r.2).bind fun s => (g2 r.1 s.1).map fun z => (z, s.2)
    | some (.bl false) => some (.bl false, r.2)
    | _ => none)
  | some (.bl false) => some (.bl false, q.2)
  | _ => none
theorem st_chain3 {op op' op2 : CmpOp} {r r' r2 : R2} {g g' g2 : T → T → Option T} (ho : OpR X (compareOp op) r) (ho' : OpR X (compareOp op') r') (ho2 : OpR X (compareOp op2) r2) (hg : Op2 X.K r false g) (hg' : Op2 X.K r' false g') (hg2 : Op2 X.K r2 false g2)
    (ha : SX X a false B1 M1 κ f1) (hb : SX X b false B2 M2 κ f2) (hc : SX X c false B3 M3 κ f3) (hdd : SX X d false B M4 κ f4)
    (hd : ∀ i, i ∈ B1 → i ∉ M2 := by decide) (hd2 : ∀ i, i ∈ B2 → i ∉ M3 := by decide) (hd3 : ∀ i, i ∈ B3 → i ∉ M4 := by decide) (hlm : lastMarks [op, op', op2] [b, c, d] = false := by with_unfolding_all rfl) :
    ST X (.Compare a [op, op', op2] [b, c, d] pos) (M1 ++ (M2 ++ (M3 ++ M4))) κ (tOf (eChain3 g g' g2 f1 f2 f3 f4)) := by
  refine PT.weak (pt_chain3 ho ho' ho2 ha hb hc hdd (hm := hlm)) fun σ H Q ⟨N, G, γ, r, γ', S, ef, q⟩ => ?_
  have ef := tOf_some ef
  unfold eChain3 at ef
  obtain ⟨⟨t1, γ1⟩, e1, ef⟩ := Option.bind_eq_some_iff.mp ef
  obtain ⟨⟨t2, γ2⟩, e2, ef⟩ := Option.bind_eq_some_iff.mp ef
  refine ⟨N, G, γ, t1, γ1, S, e1, fun v1 G1 H1 s1 S1 k1 r1 => ⟨N, G1, γ1, t2, γ2, S1, e2, fun v2 G2 H2 s2 S2 k2 r2 => ?_⟩⟩
  have r1' : Rdy X.K κ G2 σ γ2 B1 t1 v1 := r1.rdy.mono s2 (fun i hi => k2 i (hd i hi)) (fun _ h => h)
  dsimp only at ef
  split at ef
  · rename_i e3
    obtain ⟨⟨t3, γ3⟩, e4, ef⟩ := Option.bind_eq_some_iff.mp ef
    refine hg N G2 κ σ H2 γ2 B1 B2 t1 t2 _ v1 v2 S2 r1' r2.rdy e3 _ fun v G3 H3 s3 S3 rs => ⟨true, rs.rdy.bl S3, ?_⟩
    rw [if_pos rfl]
    refine ⟨N, G3, γ2, t3, γ3, S3, e4, fun v4 G4 H4 s4 S4 k4 r4 => ?_⟩
    have r2' : Rdy X.K κ G4 σ γ3 B2 t2 v2 := r2.rdy.mono (s3.trans s4) (fun i hi => k4 i (hd2 i hi)) (fun _ h => h)
    dsimp only at ef
    split at ef
    · rename_i e5
      obtain ⟨⟨t5, γ5⟩, e6, ef⟩ := Option.bind_eq_some_iff.mp ef
      obtain ⟨t6, e7, ef⟩ := Option.map_eq_some_iff.mp ef
      cases ef
      refine hg' N G4 κ σ H4 γ3 B2 B3 t2 t3 _ v2 v4 S4 r2' r4.rdy e5 _ fun v G5 H5 s5 S5 rs => ⟨true, rs.rdy.bl S5, ?_⟩
      rw [if_pos rfl]
      refine ⟨N, G5, γ3, t5, γ5, S5, e6, fun v6 G6 H6 s6 S6 k6 r6 => ?_⟩
      have r4' : Rdy X.K κ G6 σ γ5 B3 t3 v4 := r4.rdy.mono (s5.trans s6) (fun i hi => k6 i (hd3 i hi)) (fun _ h => h)
      refine hg2 N G6 κ σ H6 γ5 B3 B t3 t5 _ v4 v6 S6 r4' r6.rdy e7 _ fun v G7 H7 s7 S7 rs => ⟨_, rs.rdy.bl S7, ?_⟩
      exact q G7 H7 ((((((s1.trans s2).trans s3).trans s4).trans s5).trans s6).trans s7) S7 (k1.trans (k2.trans (k4.trans k6)))
    · rename_i e5
      cases ef
      refine hg' N G4 κ σ H4 _ B2 B3 t2 t3 _ v2 v4 S4 r2' r4.rdy e5 _ fun v G5 H5 s5 S5 rs => ⟨false, rs.rdy.bl S5, ?_⟩
      rw [if_neg (by decide)]
      exact q G5 H5 ((((s1.trans s2).trans s3).trans s4).trans s5) S5 (k1.trans (k2.trans (k4.wide fun _ h => List.mem_append_left _ h)))
    · cases ef
  · rename_i e3
    cases ef
    refine hg N G2 κ σ H2 _ B1 B2 t1 t2 _ v1 v2 S2 r1' r2.rdy e3 _ fun v G3 H3 s3 S3 rs => ⟨false, rs.rdy.bl S3, ?_⟩
    rw [if_neg (by decide)]
    exact q G3 H3 ((s1.trans s2).trans s3) S3 (k1.trans (k2.wide fun _ h => List.mem_append_left _ h))
  · cases ef
end
end Tw

namespace Tw
open L2 PySem
/-! ### reckoning with the combinators -/
section
variable {γ γ' γ1 γ2 : En} {f f1 f2 a b c : Ex} {g h : Ax} {t t1 t2 u : T} {F F1 F2 : Fs} {cc c1 c2 : Tx} {i j k : Nat} {ts us : List T}
theorem sSeq_nx (h : F1 γ = some (.nx γ')) : sSeq F1 F2 γ = F2 γ' := by unfold sSeq; rw [h]
theorem sSeq_rt (h : F1 γ = some (.rt t γ')) : sSeq F1 F2 γ = some (.rt t γ') := by unfold sSeq; rw [h]
theorem sSeq_bk (h : F1 γ = some (.bk γ')) : sSeq F1 F2 γ = some (.bk γ') := by unfold sSeq; rw [h]
theorem sSeq_ct (h : F1 γ = some (.ct γ')) : sSeq F1 F2 γ = some (.ct γ') := by unfold sSeq; rw [h]
theorem sIf_t (h : cc γ = some (true, γ')) : sIf cc F1 F2 γ = F1 γ' := by unfold sIf; rw [h]; rfl
theorem sIf_f (h : cc γ = some (false, γ')) : sIf cc F1 F2 γ = F2 γ' := by unfold sIf; rw [h]; rfl
theorem semOf_rt {n : Nat} {pl : List Nat} (hγ : ts.map some ++ List.replicate (n - ts.length) none = γ) (h : F γ = some (.rt t γ')) : semOf n pl F ts = some (t, outsOf pl γ') := by
  subst hγ
  unfold semOf
  rw [h]
theorem semOf_nx {n : Nat} {pl : List Nat} (hγ : ts.map some ++ List.replicate (n - ts.length) none = γ) (h : F γ = some (.nx γ')) : semOf n pl F ts = some (.non, outsOf pl γ') := by
  subst hγ
  unfold semOf
  rw [h]
theorem tOr_ff (h1 : c1 γ = some (false, γ1)) (h2 : c2 γ1 = some (false, γ2)) : tOrT c1 c2 γ = some (false, γ2) := by
  unfold tOrT
  rw [h1]
  simpa using h2
theorem tOr_t (h1 : c1 γ = some (true, γ1)) : tOrT c1 c2 γ = some (true, γ1) := by
  unfold tOrT
  rw [h1]
  rfl
theorem tAnd_f (h1 : c1 γ = some (false, γ1)) : tAndT c1 c2 γ = some (false, γ1) := by
  unfold tAndT
  rw [h1]
  rfl
theorem tAnd_t {b : Bool} (h1 : c1 γ = some (true, γ1)) (h2 : c2 γ1 = some (b, γ2)) : tAndT c1 c2 γ = some (b, γ2) := by
  unfold tAndT
  rw [h1]
  simpa using h2
theorem tNt {b : Bool} (h : cc γ = some (b, γ')) : tNotT cc γ = some (!b, γ') := by
  unfold tNotT
  rw [h]
  rfl
theorem tTr {b : Bool} (h : f γ = some (.bl b, γ')) : tTru f γ = some (b, γ') := by
  unfold tTru
  rw [h]
  rfl
theorem sIf_no (h : cc γ = some (false, γ')) : sSeq (sIf cc F1 sNx) F2 γ = F2 γ' := by unfold sSeq sIf; rw [h]; rfl
theorem sIf_ret (h : cc γ = some (true, γ1)) (h2 : f γ1 = some (t, γ')) : sSeq (sIf cc (sRet f) F1) F2 γ = some (.rt t γ') := by unfold sSeq sIf sRet; rw [h]; simp [h2]
@[simp] theorem r_seq : sSeq F1 F2 γ = match F1 γ with | some (.nx γ') => F2 γ' | o => o := rfl
@[simp] theorem r_if : sIf cc F1 F2 γ = (cc γ).bind fun p => if p.1 then F1 p.2 else F2 p.2 := rfl
@[simp] theorem r_nx : sNx γ = some (.nx γ) := rfl
@[simp] theorem r_kill : sKill i F γ = F (γ.set i none) := rfl
@[simp] theorem r_asg : sAsg i f γ = (f γ).map fun p => .nx (p.2.set i (some p.1)) := rfl
@[simp] theorem r_drop : sDrop f γ = (f γ).map fun p => .nx p.2 := rfl
@[simp] theorem r_ret : sRet f γ = (f γ).map fun p => .rt p.1 p.2 := rfl
@[simp] theorem r_retN : sRetN γ = some (.rt .non γ) := rfl
@[simp] theorem r_brk : sBrk γ = some (.bk γ) := rfl
@[simp] theorem r_cnt : sCnt γ = some (.ct γ) := rfl
@[simp] theorem r_no : sNo γ = none := rfl
@[simp] theorem r_lit : eLit t γ = some (t, γ) := rfl
@[simp] theorem r_bin {g : T → T → Option T} : eBin g a b γ = (a γ).bind fun p => (b p.2).bind fun q => (g p.1 q.1).map fun r => (r, q.2) := rfl
@[simp] theorem r_un {g : T → Option T} : eUn g a γ = (a γ).bind fun p => (g p.1).map fun r => (r, p.2) := rfl
@[simp] theorem r_nil : aNil γ = some ([], γ) := rfl
@[simp] theorem r_cons : aCons f g γ = (f γ).bind fun p => (g p.2).map fun q => (p.1 :: q.1, q.2) := rfl
@[simp] theorem r_io : aIo i g γ = (eVar i γ).bind fun _ => (g γ).bind fun p => (eVar i p.2).map fun q => (q.1 :: p.1, p.2) := rfl
@[simp] theorem r_call {g : List T → Option T} {a : Ax} : eCall g a γ = (a γ).bind fun p => (g p.1).map fun r => (r, p.2) := rfl
@[simp] theorem r_own {F : Sem'} {io : List Nat} {a : Ax} : eOwn F io a γ = (a γ).bind fun p => (F p.1).map fun q => (q.1, setAll p.2 io q.2) := rfl
@[simp] theorem r_sall {io : List Nat} : setAll γ (i :: io) (u :: us) = setAll (γ.set i (some u)) io us := rfl
@[simp] theorem r_sall0 : setAll γ [] us = γ := rfl
@[simp] theorem r_var : eVar i γ = match γ[i]? with | some (some t) => some (t, γ) | _ => none := rfl
@[simp] theorem r_tup {a : Ax} : eTup a γ = (a γ).bind fun p => if p.1.length ≤ sizeLine then some (.tup p.1, p.2) else none := rfl
@[simp] theorem r_lst {a : Ax} : eLst a γ = (a γ).bind fun p => if p.1.length ≤ sizeLine then some (.lst p.1, p.2) else none := rfl
@[simp] theorem r_eif : eIf cc a b γ = (cc γ).bind fun p => if p.1 then a p.2 else b p.2 := rfl
@[simp] theorem r_not : eNot f γ = match f γ with | some (.bl b, γ') => some (.bl (!b), γ') | _ => none := rfl
@[simp] theorem r_and : eAnd f1 f2 γ = match f1 γ with | some (.bl true, γ') => f2 γ' | some (.bl false, γ') => some (.bl false, γ') | _ => none := rfl
@[simp] theorem r_or : eOr f1 f2 γ = match f1 γ with | some (.bl false, γ') => f2 γ' | some (.bl true, γ') => some (.bl true, γ') | _ => none := rfl
@[simp] theorem r_tof : tOf f γ = match f γ with | some (.bl b, γ') => some (b, γ') | _ => none := rfl
@[simp] theorem r_eof : eOf cc γ = (cc γ).map fun p => (.bl p.1, p.2) := rfl
@[simp] theorem r_tnot : tNotT cc γ = (cc γ).map fun p => (!p.1, p.2) := rfl
@[simp] theorem r_tand : tAndT c1 c2 γ = (c1 γ).bind fun p => if p.1 then c2 p.2 else some (false, p.2) := rfl
@[simp] theorem r_tor : tOrT c1 c2 γ = (c1 γ).bind fun p => if p.1 then some (true, p.2) else c2 p.2 := rfl
@[simp] theorem r_tru : tTru f γ = (f γ).bind fun p => (truT p.1).map fun k => (k, p.2) := rfl
@[simp] theorem r_truB {b : Bool} : truT (.bl b) = some b := rfl
@[simp] theorem r_truI {n : Int} : truT (.int n) = some (n != 0) := rfl
@[simp] theorem r_truN : truT .non = some false := rfl
@[simp] theorem r_truL : truT (.lst ts) = some (!ts.isEmpty) := rfl
@[simp] theorem r_tgN : tgN i t γ = some (γ.set i (some t)) := rfl
@[simp] theorem r_tgnil : tgNil [] γ = some γ := rfl
@[simp] theorem r_tgcons {g : T → En → Option En} {h : TgT} : tgCons g h (t :: ts) γ = (g t γ).bind fun γ1 => h ts γ1 := rfl
@[simp] theorem r_tgseqT {n : Nat} {h : TgT} : tgSeq n h (.tup ts) γ = if ts.length = n then h ts γ else none := rfl
@[simp] theorem r_tgseqL {n : Nat} {h : TgT} : tgSeq n h (.lst ts) γ = if ts.length = n then h ts γ else none := rfl
@[simp] theorem r_asgT {tg : T → En → Option En} : sAsgT tg f γ = (f γ).bind fun p => (tg p.1 p.2).map .nx := rfl
@[simp] theorem r_par {a : Ax} : sPar i j a γ = match a γ with | some ([t, u], γ') => some (.nx ((γ'.set i (some t)).set j (some u))) | _ => none := rfl
@[simp] theorem r_par3 {a : Ax} : sPar3 i j k a γ = match a γ with | some ([t, u, w], γ') => some (.nx (((γ'.set i (some t)).set j (some u)).set k (some w))) | _ => none := rfl
@[simp] theorem r_setI {fv fi : Ex} : sSetI i fv fi γ = (fv γ).bind fun p => match p.2[i]? with
  | some (some _) => (fi p.2).bind fun q => match q.2[i]?, q.1 with
    | some (some (.lst ts)), .int k => (ixN ts.length k).map fun j => .nx (q.2.set i (some (.lst (ts.set j p.1))))
    | _, _ => none
  | _ => none := rfl
@[simp] theorem r_mut {kd : T → Bool} {g : T → List T → Option (T × T)} {a : Ax} : eMut i kd g a γ = match γ[i]? with
  | some (some t0) => if kd t0 then (a γ).bind fun p => match p.2[i]? with
    | some (some t) => (g t p.1).map fun q => (q.1, p.2.set i (some q.2))
    | _ => none else none
  | _ => none := rfl
@[simp] theorem r_isL : isL (.lst ts) = true := rfl
@[simp] theorem r_app : gApp (.lst ts) [u] = if ts.length < sizeLine then some (.non, .lst (ts ++ [u])) else none := rfl
@[simp] theorem r_for {src : Ix} {tg : T → En → Option En} : sFor src tg F γ = (src γ).bind fun p => forL tg F p.1 p.2 := rfl
@[simp] theorem r_forL0 {tg : T → En → Option En} : forL tg F [] γ = some (.nx γ) := rfl
@[simp] theorem r_iseq : iSeq f γ = match f γ with | some (.lst ts, γ') => some (ts, γ') | _ => none := rfl
@[simp] theorem r_itup : iTupl f γ = match f γ with | some (.tup ts, γ') => some (ts, γ') | _ => none := rfl
@[simp] theorem r_ir1 {a : Ax} : iR1 a γ = match a γ with | some ([.int j], γ') => if -4611686018427387904 ≤ j ∧ j < 4611686018427387904 then some (rngT 0 j.toNat, γ') else none | _ => none := rfl
@[simp] theorem r_ir2 {a : Ax} : iR2 a γ = match a γ with | some ([.int i, .int j], γ') => if -4611686018427387904 ≤ i ∧ i < 4611686018427387904 ∧ -4611686018427387904 ≤ j ∧ j < 4611686018427387904 then some (rngT i (j - i).toNat, γ') else none | _ => none := rfl
@[simp] theorem r_comp {own : List Nat} {src : Ix} {tg : T → En → Option En} {test : Tx} {elt : Ex} : eComp own src tg test elt γ = (src γ).bind fun p => (compL own tg test elt p.1 p.2 []).map fun q => (.lst q.1, q.2) := rfl
@[simp] theorem r_yes : tYesT γ = some (true, γ) := rfl
@[simp] theorem r_outs0 : outsOf [] γ = [] := rfl
@[simp] theorem r_outs {pl : List Nat} : outsOf (i :: pl) γ = (match γ[i]? with | some (some t) => t | _ => .non) :: outsOf pl γ := rfl
@[simp] theorem r_wipe0 : wipeE γ [] = γ := rfl
@[simp] theorem r_wipe {own : List Nat} : wipeE γ (i :: own) = (wipeE γ own).set i none := rfl
@[simp] theorem r_back0 : backE γ γ' [] = γ' := rfl
@[simp] theorem r_back {own : List Nat} : backE γ γ' (i :: own) = (backE γ γ' own).set i (γ[i]?.getD none) := rfl
end
section
variable {i j : Int} {ts us : List T} {t u : T} {x y : Str} {b : Bool}
@[simp] theorem r_add : gAdd (.int i) (.int j) = some (.int (i + j)) := rfl
@[simp] theorem r_addL : gAdd (.lst ts) (.lst us) = if ts.length + us.length ≤ sizeLine then some (.lst (ts ++ us)) else none := rfl
@[simp] theorem r_addT : gAdd (.tup ts) (.tup us) = if ts.length + us.length ≤ sizeLine then some (.tup (ts ++ us)) else none := rfl
@[simp] theorem r_sub : gSub (.int i) (.int j) = some (.int (i - j)) := rfl
@[simp] theorem r_mul : gMul (.int i) (.int j) = if okMul i j then some (.int (i * j)) else none := rfl
@[simp] theorem r_mod : gMod (.int i) (.int j) = if j ≠ 0 then some (.int (i.fmod j)) else none := rfl
@[simp] theorem r_div : gDiv (.int i) (.int j) = if okDiv j then some (.int (i.fdiv j)) else none := rfl
@[simp] theorem r_pow : gPow (.int i) (.int j) = if 0 ≤ j ∧ j ≤ 1000000 ∧ i.natAbs < 2 ^ 64 then some (.int (i ^ j.toNat)) else none := rfl
@[simp] theorem r_lt : gLt (.int i) (.int j) = some (.bl (decide (i < j))) := rfl
@[simp] theorem r_le : gLe (.int i) (.int j) = some (.bl (decide (i ≤ j))) := rfl
@[simp] theorem r_gt : gGt (.int i) (.int j) = some (.bl (decide (j < i))) := rfl
@[simp] theorem r_ge : gGe (.int i) (.int j) = some (.bl (decide (j ≤ i))) := rfl
@[simp] theorem r_neg : gNeg (.int i) = some (.int (-i)) := rfl
@[simp] theorem r_ixL : gIx (.lst ts) (.int i) = atI ts i := rfl
@[simp] theorem r_ixO : gIx (.old ts) (.int i) = atI ts i := rfl
@[simp] theorem r_ixT : gIx (.tup ts) (.int i) = atI ts i := rfl
@[simp] theorem r_lenL : gLen [.lst ts] = some (.int (ts.length : Nat)) := rfl
@[simp] theorem r_lenO : gLen [.old ts] = some (.int (ts.length : Nat)) := rfl
@[simp] theorem r_lenT : gLen [.tup ts] = some (.int (ts.length : Nat)) := rfl
@[simp] theorem r_int : gInt [.int i] = some (.int i) := rfl
@[simp] theorem r_abs : gAbs [.int i] = some (.int (if i < 0 then -i else i)) := rfl
@[simp] theorem r_gcd : gGcd [.int i, .int j] = some (.int ((Nat.gcd i.natAbs j.natAbs : Nat) : Int)) := rfl
@[simp] theorem r_lof : gListOf [.lst ts] = some (.lst ts) := rfl
@[simp] theorem r_tofL : gTupOf [.lst ts] = some (.tup ts) := rfl
@[simp] theorem r_tofT : gTupOf [.tup ts] = some (.tup ts) := rfl
@[simp] theorem r_is : gIs t u = (isT t u).map T.bl := rfl
@[simp] theorem r_isnt : gIsNot t u = (isT t u).map fun k => T.bl (!k) := rfl
@[simp] theorem r_slT {lo hi : Option Int} : gSl (.tup ts) lo hi = some (.tup (cutT ts lo hi)) := rfl
@[simp] theorem r_slL {lo hi : Option Int} : gSl (.lst ts) lo hi = some (.lst (cutT ts lo hi)) := rfl
@[simp] theorem r_esl {g : T → Option Int → Option Int → Option T} {f : Ex} {lo hi : Ox} {γ : En} : eSl g f lo hi γ = (f γ).bind fun p => (lo p.2).bind fun q => (hi q.2).bind fun r => (g p.1 q.1 r.1).map fun z => (z, r.2) := rfl
theorem eqT_int : eqT (.int i) (.int j) = decide (i = j) := by
  by_cases h : i = j
  · subst h
    simp [eqT, toD, PyData.eqv]
  · simp [eqT, toD, PyData.eqv, h]
@[simp] theorem r_eqI : gEq (.int i) (.int j) = some (.bl (decide (i = j))) := by
  unfold gEq
  rw [show okT (.int i) = true from rfl, show okT (.int j) = true from rfl, eqT_int]
  rfl
@[simp] theorem r_neI : gNe (.int i) (.int j) = some (.bl (!decide (i = j))) := by
  unfold gNe
  rw [show okT (.int i) = true from rfl, show okT (.int j) = true from rfl, eqT_int]
  rfl
theorem atI_of {ts : List T} {n : Nat} {v : T} (h : ts[n]? = some v) : atI ts (n : Int) = some v := atI_nat h
@[simp] theorem atI_0 {ts : List T} : atI (t :: ts) 0 = some t := atI_nat (j := 0) rfl
@[simp] theorem atI_1 {ts : List T} {t1 : T} : atI (t :: t1 :: ts) 1 = some t1 := atI_nat (j := 1) rfl
@[simp] theorem atI_2 {ts : List T} {t1 t2 : T} : atI (t :: t1 :: t2 :: ts) 2 = some t2 := atI_nat (j := 2) rfl
@[simp] theorem atI_3 {ts : List T} {t1 t2 t3 : T} : atI (t :: t1 :: t2 :: t3 :: ts) 3 = some t3 := atI_nat (j := 3) rfl
@[simp] theorem atI_4 {ts : List T} {t1 t2 t3 t4 : T} : atI (t :: t1 :: t2 :: t3 :: t4 :: ts) 4 = some t4 := atI_nat (j := 4) rfl
@[simp] theorem atI_5 {ts : List T} {t1 t2 t3 t4 t5 : T} : atI (t :: t1 :: t2 :: t3 :: t4 :: t5 :: ts) 5 = some t5 := atI_nat (j := 5) rfl
end
theorem okMul_r {i j : Int} (h : j.natAbs < 2 ^ 64) : okMul i j = true := by
  unfold okMul
  simp [h]
theorem okMul_of {i j : Int} {n m : Nat} (hi : i.natAbs < 2 ^ n) (hj : j.natAbs < 2 ^ m) (h : n + m < 134000000) : okMul i j = true := by
  unfold okMul
  by_cases h0 : i.natAbs = 0
  · rw [h0]; rfl
  by_cases h1 : j.natAbs = 0
  · rw [h1]; simp
  have a := (Nat.log2_lt h0).mpr hi
  have b := (Nat.log2_lt h1).mpr hj
  have c : i.natAbs.log2 + j.natAbs.log2 < 134000000 := by omega
  simp [c]
theorem okDiv_of {j : Int} {m : Nat} (h0 : j ≠ 0) (hj : j.natAbs < 2 ^ m) (h : m ≤ 9000) : okDiv j = true := by
  unfold okDiv
  have h1 : j.natAbs ≠ 0 := by omega
  have b := (Nat.log2_lt h1).mpr hj
  have c : j.natAbs.log2 < 9000 := by omega
  simp [c, h0]
/-- the steps of the plain reckoning -/
theorem fmod_lt {i M : Int} (h : 0 < M) : 0 ≤ i.fmod M ∧ i.fmod M < M := ⟨Int.fmod_nonneg_of_pos i h, Int.fmod_lt_of_pos i h⟩
theorem forL_cons {tg : T → En → Option En} {F : Fs} {t : T} {ts : List T} {γ γ1 : En} (h : tg t γ = some γ1) : forL tg F (t :: ts) γ = match F γ1 with
      | some (.nx γ') => forL tg F ts γ'
      | some (.ct γ') => forL tg F ts γ'
      | some (.bk γ') => some (.nx γ')
      | o => o := by
  conv => lhs; unfold forL
  rw [h]
  rfl
/-- a loop that does nothing but look -/
theorem forL_all {tg : T → En → Option En} {F : Fs} {γ : En} : ∀ {ts : List T}, (∀ t ∈ ts, ∃ γ1, tg t γ = some γ1 ∧ F γ1 = some (.nx γ)) → forL tg F ts γ = some (.nx γ)
  | [], _ => rfl
  | t :: ts, h => by
    obtain ⟨γ1, h1, h2⟩ := h t (List.mem_cons_self ..)
    rw [forL_cons h1, h2]
    exact forL_all fun t ht => h t (List.mem_cons_of_mem _ ht)
theorem forL_step {tg : T → En → Option En} {F : Fs} {t : T} {ts : List T} {γ γ1 γ2 : En} (h : tg t γ = some γ1) (h2 : F γ1 = some (.nx γ2)) : forL tg F (t :: ts) γ = forL tg F ts γ2 := by
  rw [forL_cons h, h2]
/-- a loop with what it keeps: I by how many turns are done -/
theorem forL_inv {tg : T → En → Option En} {F : Fs} {I : Nat → En → Prop} : ∀ {ts : List T} {n : Nat} {γ : En}, I n γ → (∀ (i : Nat) (t : T) (γ : En), ts[i]? = some t → I (n + i) γ → ∃ γ1 γ2, tg t γ = some γ1 ∧ F γ1 = some (.nx γ2) ∧ I (n + i + 1) γ2) → ∃ γ', forL tg F ts γ = some (.nx γ') ∧ I (n + ts.length) γ'
  | [], n, γ, h0, _ => ⟨γ, rfl, h0⟩
  | t :: ts, n, γ, h0, h => by
    obtain ⟨γ1, γ2, h1, h2, h3⟩ := h 0 t γ rfl h0
    rw [forL_step h1 h2]
    obtain ⟨γ', a, b⟩ := forL_inv (I := I) (ts := ts) (n := n + 1) (γ := γ2) h3 fun i t γ hi hI => by
      have := h (i + 1) t γ (by simpa using hi) (by rw [show n + (i + 1) = n + 1 + i by omega]; exact hI)
      rw [show n + (i + 1) + 1 = n + 1 + i + 1 by omega] at this
      exact this
    exact ⟨γ', a, by rw [show n + (t :: ts).length = n + 1 + ts.length by simp; omega]; exact b⟩
theorem rngT_mem {lo : Int} {n : Nat} {t : T} (h : t ∈ rngT lo n) : ∃ k : Nat, k < n ∧ t = .int (lo + k) := by
  unfold rngT at h
  obtain ⟨k, h1, h2⟩ := List.mem_map.mp h
  exact ⟨k, List.mem_range.mp h1, h2.symm⟩
theorem rngT_get {lo : Int} {n i : Nat} {t : T} (h : (rngT lo n)[i]? = some t) : i < n ∧ t = .int (lo + i) := by
  unfold rngT at h
  rw [List.getElem?_map] at h
  by_cases hi : i < n
  · rw [List.getElem?_range hi] at h
    exact ⟨hi, (by simpa using h.symm)⟩
  · rw [List.getElem?_eq_none (by simpa using hi)] at h
    cases h
@[simp] theorem rngT_len {lo : Int} {n : Nat} : (rngT lo n).length = n := by simp [rngT]
/-- a comprehension, item by item: I by what is gathered -/
theorem compL_inv {own : List Nat} {tg : T → En → Option En} {test : Tx} {elt : Ex} {I : List T → En → Prop} : ∀ {ts acc : List T} {γ : En}, acc.length + ts.length ≤ PySem.sizeLine → I acc γ →
    (∀ (i : Nat) (t : T) (acc' : List T) (γ : En), ts[i]? = some t → acc'.length = acc.length + i → I acc' γ → ∃ γ1 γ2 γ3 u, tg t (wipeE γ own) = some γ1 ∧ test γ1 = some (true, γ2) ∧ elt γ2 = some (u, γ3) ∧ I (acc' ++ [u]) (backE γ γ3 own)) →
    ∃ us γ', compL own tg test elt ts γ acc = some (us, γ') ∧ I us γ' ∧ us.length = acc.length + ts.length
  | [], acc, γ, _, h0, _ => ⟨acc, γ, rfl, h0, by simp⟩
  | t :: ts, acc, γ, hs, h0, h => by
    obtain ⟨γ1, γ2, γ3, u, e1, e2, e3, e4⟩ := h 0 t acc γ rfl (by simp) h0
    have hl : acc.length < PySem.sizeLine := by
      have : (t :: ts).length = ts.length + 1 := rfl
      omega
    obtain ⟨us, γ', a, b, c⟩ := compL_inv (I := I) (ts := ts) (acc := acc ++ [u]) (γ := backE γ γ3 own) (by simp at hs ⊢; omega) e4 fun i t acc' γ hi hl hI => by
      exact h (i + 1) t acc' γ (by simpa using hi) (by simp at hl; omega) hI
    refine ⟨us, γ', ?_, b, by simp at c ⊢; omega⟩
    conv => lhs; unfold compL
    rw [e1]
    simp only [Option.bind_some]
    rw [e2]
    simp only [Option.bind_some, if_true]
    rw [e3]
    simp only [Option.bind_some]
    rw [if_pos hl]
    exact a
/-- a comprehension that changes nothing -/
theorem compL_map {own : List Nat} {tg : T → En → Option En} {test : Tx} {elt : Ex} {γ : En} {f : T → T} {ts : List T} (hs : ts.length ≤ PySem.sizeLine)
    (h : ∀ t ∈ ts, ∃ γ1 γ2 γ3, tg t (wipeE γ own) = some γ1 ∧ test γ1 = some (true, γ2) ∧ elt γ2 = some (f t, γ3) ∧ backE γ γ3 own = γ) : compL own tg test elt ts γ [] = some (ts.map f, γ) := by
  have : ∀ (ts' acc : List T), (∀ t ∈ ts', t ∈ ts) → acc.length + ts'.length ≤ PySem.sizeLine → compL own tg test elt ts' γ acc = some (acc ++ ts'.map f, γ) := by
    intro ts'
    induction ts' with
    | nil => intro acc _ _; simp [compL]
    | cons t r ih =>
      intro acc hm hl
      obtain ⟨γ1, γ2, γ3, e1, e2, e3, e4⟩ := h t (hm t (List.mem_cons_self ..))
      conv => lhs; unfold compL
      rw [e1]
      simp only [Option.bind_some]
      rw [e2]
      simp only [Option.bind_some, if_true]
      rw [e3]
      simp only [Option.bind_some]
      have hl' : acc.length < PySem.sizeLine := by simp at hl; omega
      rw [if_pos hl', e4, ih (acc ++ [f t]) (fun t ht => hm t (List.mem_cons_of_mem _ ht)) (by simp at hl ⊢; omega)]
      simp
  simpa using this ts [] (fun _ h => h) (by simpa using hs)
/-! ### kinds -/
@[simp] theorem isi_i_i {i : Int} : gIsi "int" (.int i) = some (.bl true) := by
  show (kitB "int" "int").map T.bl = _
  rw [show kitB "int" "int" = some true by decide +kernel]
  rfl
@[simp] theorem isi_i_b {b : Bool} : gIsi "int" (.bl b) = some (.bl true) := by
  show (kitB "bool" "int").map T.bl = _
  rw [show kitB "bool" "int" = some true by decide +kernel]
  rfl
@[simp] theorem isi_i_s {x : Str} : gIsi "int" (.str x) = some (.bl false) := by
  show (kitB "str" "int").map T.bl = _
  rw [show kitB "str" "int" = some false by decide +kernel]
  rfl
@[simp] theorem isi_i_t {ts : List T} : gIsi "int" (.tup ts) = some (.bl false) := by
  show (kitB "tuple" "int").map T.bl = _
  rw [show kitB "tuple" "int" = some false by decide +kernel]
  rfl
@[simp] theorem isi_i_l {ts : List T} : gIsi "int" (.lst ts) = some (.bl false) := by
  show (kitB "list" "int").map T.bl = _
  rw [show kitB "list" "int" = some false by decide +kernel]
  rfl
@[simp] theorem isi_i_n  : gIsi "int" .non = some (.bl false) := by
  show (kitB "NoneType" "int").map T.bl = _
  rw [show kitB "NoneType" "int" = some false by decide +kernel]
  rfl
@[simp] theorem isi_i_d {ts us : List T} : gIsi "int" (.dct ts us) = some (.bl false) := by
  show (kitB "dict" "int").map T.bl = _
  rw [show kitB "dict" "int" = some false by decide +kernel]
  rfl
@[simp] theorem isi_b_i {i : Int} : gIsi "bool" (.int i) = some (.bl false) := by
  show (kitB "int" "bool").map T.bl = _
  rw [show kitB "int" "bool" = some false by decide +kernel]
  rfl
@[simp] theorem isi_b_b {b : Bool} : gIsi "bool" (.bl b) = some (.bl true) := by
  show (kitB "bool" "bool").map T.bl = _
  rw [show kitB "bool" "bool" = some true by decide +kernel]
  rfl
@[simp] theorem isi_b_s {x : Str} : gIsi "bool" (.str x) = some (.bl false) := by
  show (kitB "str" "bool").map T.bl = _
  rw [show kitB "str" "bool" = some false by decide +kernel]
  rfl
@[simp] theorem isi_b_t {ts : List T} : gIsi "bool" (.tup ts) = some (.bl false) := by
  show (kitB "tuple" "bool").map T.bl = _
  rw [show kitB "tuple" "bool" = some false by decide +kernel]
  rfl
@[simp] theorem isi_b_l {ts : List T} : gIsi "bool" (.lst ts) = some (.bl false) := by
  show (kitB "list" "bool").map T.bl = _
  rw [show kitB "list" "bool" = some false by decide +kernel]
  rfl
@[simp] theorem isi_b_n  : gIsi "bool" .non = some (.bl false) := by
  show (kitB "NoneType" "bool").map T.bl = _
  rw [show kitB "NoneType" "bool" = some false by decide +kernel]
  rfl
@[simp] theorem isi_b_d {ts us : List T} : gIsi "bool" (.dct ts us) = some (.bl false) := by
  show (kitB "dict" "bool").map T.bl = _
  rw [show kitB "dict" "bool" = some false by decide +kernel]
  rfl
@[simp] theorem isi_s_i {i : Int} : gIsi "str" (.int i) = some (.bl false) := by
  show (kitB "int" "str").map T.bl = _
  rw [show kitB "int" "str" = some false by decide +kernel]
  rfl
@[simp] theorem isi_s_b {b : Bool} : gIsi "str" (.bl b) = some (.bl false) := by
  show (kitB "bool" "str").map T.bl = _
  rw [show kitB "bool" "str" = some false by decide +kernel]
  rfl
@[simp] theorem isi_s_s {x : Str} : gIsi "str" (.str x) = some (.bl true) := by
  show (kitB "str" "str").map T.bl = _
  rw [show kitB "str" "str" = some true by decide +kernel]
  rfl
@[simp] theorem isi_s_t {ts : List T} : gIsi "str" (.tup ts) = some (.bl false) := by
  show (kitB "tuple" "str").map T.bl = _
  rw [show kitB "tuple" "str" = some false by decide +kernel]
  rfl
@[simp] theorem isi_s_l {ts : List T} : gIsi "str" (.lst ts) = some (.bl false) := by
  show (kitB "list" "str").map T.bl = _
  rw [show kitB "list" "str" = some false by decide +kernel]
  rfl
@[simp] theorem isi_s_n  : gIsi "str" .non = some (.bl false) := by
  show (kitB "NoneType" "str").map T.bl = _
  rw [show kitB "NoneType" "str" = some false by decide +kernel]
  rfl
@[simp] theorem isi_s_d {ts us : List T} : gIsi "str" (.dct ts us) = some (.bl false) := by
  show (kitB "dict" "str").map T.bl = _
  rw [show kitB "dict" "str" = some false by decide +kernel]
  rfl
@[simp] theorem isi_d_i {i : Int} : gIsi "dict" (.int i) = some (.bl false) := by
  show (kitB "int" "dict").map T.bl = _
  rw [show kitB "int" "dict" = some false by decide +kernel]
  rfl
@[simp] theorem isi_d_b {b : Bool} : gIsi "dict" (.bl b) = some (.bl false) := by
  show (kitB "bool" "dict").map T.bl = _
  rw [show kitB "bool" "dict" = some false by decide +kernel]
  rfl
@[simp] theorem isi_d_s {x : Str} : gIsi "dict" (.str x) = some (.bl false) := by
  show (kitB "str" "dict").map T.bl = _
  rw [show kitB "str" "dict" = some false by decide +kernel]
  rfl
@[simp] theorem isi_d_t {ts : List T} : gIsi "dict" (.tup ts) = some (.bl false) := by
  show (kitB "tuple" "dict").map T.bl = _
  rw [show kitB "tuple" "dict" = some false by decide +kernel]
  rfl
@[simp] theorem isi_d_l {ts : List T} : gIsi "dict" (.lst ts) = some (.bl false) := by
  show (kitB "list" "dict").map T.bl = _
  rw [show kitB "list" "dict" = some false by decide +kernel]
  rfl
@[simp] theorem isi_d_n  : gIsi "dict" .non = some (.bl false) := by
  show (kitB "NoneType" "dict").map T.bl = _
  rw [show kitB "NoneType" "dict" = some false by decide +kernel]
  rfl
@[simp] theorem isi_d_d {ts us : List T} : gIsi "dict" (.dct ts us) = some (.bl true) := by
  show (kitB "dict" "dict").map T.bl = _
  rw [show kitB "dict" "dict" = some true by decide +kernel]
  rfl
@[simp] theorem isi_t_i {i : Int} : gIsi "tuple" (.int i) = some (.bl false) := by
  show (kitB "int" "tuple").map T.bl = _
  rw [show kitB "int" "tuple" = some false by decide +kernel]
  rfl
@[simp] theorem isi_t_b {b : Bool} : gIsi "tuple" (.bl b) = some (.bl false) := by
  show (kitB "bool" "tuple").map T.bl = _
  rw [show kitB "bool" "tuple" = some false by decide +kernel]
  rfl
@[simp] theorem isi_t_s {x : Str} : gIsi "tuple" (.str x) = some (.bl false) := by
  show (kitB "str" "tuple").map T.bl = _
  rw [show kitB "str" "tuple" = some false by decide +kernel]
  rfl
@[simp] theorem isi_t_t {ts : List T} : gIsi "tuple" (.tup ts) = some (.bl true) := by
  show (kitB "tuple" "tuple").map T.bl = _
  rw [show kitB "tuple" "tuple" = some true by decide +kernel]
  rfl
@[simp] theorem isi_t_l {ts : List T} : gIsi "tuple" (.lst ts) = some (.bl false) := by
  show (kitB "list" "tuple").map T.bl = _
  rw [show kitB "list" "tuple" = some false by decide +kernel]
  rfl
@[simp] theorem isi_t_n  : gIsi "tuple" .non = some (.bl false) := by
  show (kitB "NoneType" "tuple").map T.bl = _
  rw [show kitB "NoneType" "tuple" = some false by decide +kernel]
  rfl
@[simp] theorem isi_t_d {ts us : List T} : gIsi "tuple" (.dct ts us) = some (.bl false) := by
  show (kitB "dict" "tuple").map T.bl = _
  rw [show kitB "dict" "tuple" = some false by decide +kernel]
  rfl
@[simp] theorem isi_l_i {i : Int} : gIsi "list" (.int i) = some (.bl false) := by
  show (kitB "int" "list").map T.bl = _
  rw [show kitB "int" "list" = some false by decide +kernel]
  rfl
@[simp] theorem isi_l_b {b : Bool} : gIsi "list" (.bl b) = some (.bl false) := by
  show (kitB "bool" "list").map T.bl = _
  rw [show kitB "bool" "list" = some false by decide +kernel]
  rfl
@[simp] theorem isi_l_s {x : Str} : gIsi "list" (.str x) = some (.bl false) := by
  show (kitB "str" "list").map T.bl = _
  rw [show kitB "str" "list" = some false by decide +kernel]
  rfl
@[simp] theorem isi_l_t {ts : List T} : gIsi "list" (.tup ts) = some (.bl false) := by
  show (kitB "tuple" "list").map T.bl = _
  rw [show kitB "tuple" "list" = some false by decide +kernel]
  rfl
@[simp] theorem isi_l_l {ts : List T} : gIsi "list" (.lst ts) = some (.bl true) := by
  show (kitB "list" "list").map T.bl = _
  rw [show kitB "list" "list" = some true by decide +kernel]
  rfl
@[simp] theorem isi_l_n  : gIsi "list" .non = some (.bl false) := by
  show (kitB "NoneType" "list").map T.bl = _
  rw [show kitB "NoneType" "list" = some false by decide +kernel]
  rfl
@[simp] theorem isi_l_d {ts us : List T} : gIsi "list" (.dct ts us) = some (.bl false) := by
  show (kitB "dict" "list").map T.bl = _
  rw [show kitB "dict" "list" = some false by decide +kernel]
  rfl
@[simp] theorem isT_nn : isT .non .non = some true := rfl
@[simp] theorem isT_in {i : Int} : isT (.int i) .non = some false := rfl
@[simp] theorem isT_bn {b : Bool} : isT (.bl b) .non = some false := rfl
@[simp] theorem isT_sn {x : Str} : isT (.str x) .non = some false := rfl
@[simp] theorem isT_tn {ts : List T} : isT (.tup ts) .non = some false := rfl
@[simp] theorem isT_ln {ts : List T} : isT (.lst ts) .non = some false := rfl
@[simp] theorem isT_bb {a b : Bool} : isT (.bl a) (.bl b) = some (a == b) := rfl
@[simp] theorem isT_nb {b : Bool} : isT .non (.bl b) = some false := rfl
@[simp] theorem isT_ib {i : Int} {b : Bool} : isT (.int i) (.bl b) = some false := rfl
@[simp] theorem isT_sb {x : Str} {b : Bool} : isT (.str x) (.bl b) = some false := rfl
@[simp] theorem isT_tb {ts : List T} {b : Bool} : isT (.tup ts) (.bl b) = some false := rfl
@[simp] theorem isT_lb {ts : List T} {b : Bool} : isT (.lst ts) (.bl b) = some false := rfl
/-! ### equality -/
theorem eqT_tup {ts us : List T} : eqT (.tup ts) (.tup us) = PyData.eqvAll (toDs ts) (toDs us) := by
  simp [eqT, toD, PyData.eqv]
theorem eqT_lst {ts us : List T} : eqT (.lst ts) (.lst us) = PyData.eqvAll (toDs ts) (toDs us) := by
  simp [eqT, toD, PyData.eqv]
@[simp] theorem eqAll_nil : PyData.eqvAll (toDs []) (toDs []) = true := by simp [toDs, PyData.eqvAll]
@[simp] theorem eqAll_cons {t u : T} {ts us : List T} : PyData.eqvAll (toDs (t :: ts)) (toDs (u :: us)) = (eqT t u && PyData.eqvAll (toDs ts) (toDs us)) := by simp [toDs, PyData.eqvAll, eqT]
mutual
theorem eqT_refl : ∀ (n : Nat) (t : T), okN n t = true → eqT t t = true
  | _, .non, _ => by simp [eqT, toD, PyData.eqv]
  | _, .bl b, _ => by simp [eqT, toD, PyData.eqv]
  | _, .int i, _ => by simp [eqT_int]
  | _, .str x, _ => by simp [eqT, toD, PyData.eqv]
  | n + 1, .lst ts, h => by
    rw [eqT_lst]
    exact eqTs_refl n ts (by simpa [okN] using h)
  | n + 1, .tup ts, h => by
    rw [eqT_tup]
    exact eqTs_refl n ts (by simpa [okN] using h)
  | 0, .lst _, h => by simp [okN] at h
  | 0, .tup _, h => by simp [okN] at h
  | _, .dct _ _, h => by simp [okN] at h
  | _, .old _, h => by simp [okN] at h
theorem eqTs_refl : ∀ (n : Nat) (ts : List T), (∀ t ∈ ts, okN n t = true) → PyData.eqvAll (toDs ts) (toDs ts) = true
  | _, [], _ => eqAll_nil
  | n, t :: ts, h => by
    rw [eqAll_cons, eqT_refl n t (h t (List.mem_cons_self ..)), eqTs_refl n ts fun u hu => h u (List.mem_cons_of_mem _ hu)]
    rfl
end
theorem okN_mono : ∀ {n : Nat} {t : T}, okN n t = true → okN (n + 1) t = true
  | _, .non, _ => rfl
  | _, .bl _, _ => rfl
  | _, .int _, _ => rfl
  | _, .str _, h => by simpa [okN] using h
  | n + 1, .lst ts, h => by
    simp only [okN, List.all_eq_true] at h ⊢
    exact fun t ht => okN_mono (h t ht)
  | n + 1, .tup ts, h => by
    simp only [okN, List.all_eq_true] at h ⊢
    exact fun t ht => okN_mono (h t ht)
  | 0, .lst _, h => by simp [okN] at h
  | 0, .tup _, h => by simp [okN] at h
  | _, .dct _ _, h => by simp [okN] at h
  | _, .old _, h => by simp [okN] at h
theorem okN_le {n m : Nat} {t : T} (h : okN n t = true) (hm : n ≤ m) : okN m t = true := by
  induction hm with
  | refl => exact h
  | step _ ih => exact okN_mono ih
/-- data that two of one kind may be told the same of -/
def okS : Nat → T → Bool
  | _, .non => true
  | _, .bl _ => true
  | _, .int _ => true
  | _, .str x => PySem.PyData.strOk x
  | n + 1, .lst ts => decide (ts.length < 1000000000) && ts.all (okS n)
  | n + 1, .tup ts => decide (ts.length < 1000000000) && ts.all (okS n)
  | _, _ => false
end Tw

namespace LawP
open Tw L2
/-! _law_mixed(number, place): 0 number, 1 place, 2 first, 3 second, 4 third; changed []; new False -/
noncomputable def F__law_mixed : Fs :=
  (sSeq (sAsg 2 (eBin gMod (eCall gInt (aCons (eBin gAdd (eBin gAdd (eBin gMul (eVar 0) (eLit (.int 48271))) (eBin gMul (eVar 1) (eLit (.int 69621)))) (eLit (.int 11))) aNil)) (eLit (.int 618970019642690137449562111)))) (sSeq (sAsg 3 (eBin gMod (eCall gInt (aCons (eBin gAdd (eBin gAdd (eBin gMul (eVar 2) (eVar 2)) (eBin gMul (eLit (.int 7)) (eVar 2))) (eVar 1)) aNil)) (eLit (.int 162259276829213363391578010288127)))) (sSeq (sAsg 4 (eBin gMod (eCall gInt (aCons (eBin gAdd (eBin gMul (eVar 3) (eVar 3)) (eVar 2)) aNil)) (eLit (.int 618970019642690137449562111)))) (sRet (eBin gAdd (eBin gMul (eVar 3) (eLit (.int 618970019642690137449562111))) (eVar 4))))))
noncomputable def sem__law_mixed : Sem' := semOf 5 [] F__law_mixed
/-! _law_rest(script, place, fills): 0 script, 1 place, 2 fills, 3 number; changed []; new False -/
noncomputable def F__law_rest : Fs :=
  (sSeq (sAsg 3 (eLit (.int 0))) (sSeq (sIf (tOf (eBin gGt (eCall gLen (aCons (eVar 0) aNil)) (eLit (.int 0)))) (sSeq (sAsg 3 (eCall gInt (aCons (eBin gIx (eVar 0) (eBin gMod (eCall gInt (aCons (eVar 1) aNil)) (eCall gLen (aCons (eVar 0) aNil)))) aNil))) sNx) sNx) (sSeq (sIf (tOf (eBin gLt (eVar 3) (eLit (.int 0)))) (sSeq (sAsg 3 (eBin gSub (eLit (.int 1)) (eBin gMul (eLit (.int 2)) (eVar 3)))) sNx) sNx) (sSeq (sIf (tAndT (tOf (eBin gEq (eVar 2) (eLit (.int 0)))) (tAndT (tOf (eBin gLt (eVar 1) (eCall gLen (aCons (eVar 0) aNil)))) (tOf (eBin gGe (eVar 3) (eBin gPow (eLit (.int 10)) (eLit (.int 18))))))) (sRet (eBin gSub (eVar 3) (eBin gPow (eLit (.int 10)) (eLit (.int 18))))) sNx) (sRet (eOwn sem__law_mixed [] (aCons (eBin gAdd (eVar 3) (eBin gMul (eVar 2) (eLit (.int 1000003)))) (aCons (eVar 1) aNil))))))))
noncomputable def sem__law_rest : Sem' := semOf 4 [] F__law_rest
/-! _law_pool(script): 0 script; changed []; new True -/
noncomputable def F__law_pool : Fs :=
  (sRet (eLst (aCons (eVar 0) (aCons (eLit (.int 0)) (aCons (eOwn sem__law_rest [] (aCons (eVar 0) (aCons (eLit (.int 0)) (aCons (eLit (.int 0)) aNil)))) (aCons (eLit (.int 0)) aNil))))))
noncomputable def sem__law_pool : Sem' := semOf 1 [] F__law_pool
/-! _law_next(pool): 0 pool; changed [0]; new False -/
noncomputable def F__law_next : Fs :=
  (sSeq (sSetI 0 (eBin gAdd (eBin gIx (eVar 0) (eLit (.int 1))) (eLit (.int 1))) (eLit (.int 1))) (sSeq (sSetI 0 (eOwn sem__law_rest [] (aCons (eBin gIx (eVar 0) (eLit (.int 0))) (aCons (eBin gIx (eVar 0) (eLit (.int 1))) (aCons (eLit (.int 0)) aNil)))) (eLit (.int 2))) (sSeq (sSetI 0 (eLit (.int 0)) (eLit (.int 3))) sNx)))
noncomputable def sem__law_next : Sem' := semOf 1 [0] F__law_next
/-! _law_draw(pool, limit): 0 pool, 1 limit, 2 value; changed [0]; new False -/
noncomputable def F__law_draw : Fs :=
  (sSeq (sIf (tOf (eBin gLe (eBin gIx (eVar 0) (eLit (.int 2))) (eLit (.int 1)))) (sSeq (sSetI 0 (eBin gAdd (eBin gIx (eVar 0) (eLit (.int 3))) (eLit (.int 1))) (eLit (.int 3))) (sSeq (sSetI 0 (eOwn sem__law_rest [] (aCons (eBin gIx (eVar 0) (eLit (.int 0))) (aCons (eBin gIx (eVar 0) (eLit (.int 1))) (aCons (eBin gIx (eVar 0) (eLit (.int 3))) aNil)))) (eLit (.int 2))) sNx)) sNx) (sSeq (sAsg 2 (eBin gMod (eCall gInt (aCons (eBin gIx (eVar 0) (eLit (.int 2))) aNil)) (eVar 1))) (sSeq (sSetI 0 (eBin gDiv (eCall gInt (aCons (eBin gIx (eVar 0) (eLit (.int 2))) aNil)) (eVar 1)) (eLit (.int 2))) (sRet (eVar 2)))))
noncomputable def sem__law_draw : Sem' := semOf 3 [0] F__law_draw
/-! _law_pick(pool, options): 0 pool, 1 options; changed [0]; new False -/
noncomputable def F__law_pick : Fs :=
  (sRet (eBin gIx (eVar 1) (eOwn sem__law_draw [0] (aIo 0 (aCons (eCall gLen (aCons (eVar 1) aNil)) aNil)))))
noncomputable def sem__law_pick : Sem' := semOf 2 [0] F__law_pick
/-! _law_same(answer, due): 0 answer, 1 due, 2 key, 3 k; changed []; new False -/
noncomputable def F__law_same (self : Sem') : Fs :=
  (sSeq (sIf (tOrT (tOf (eBin gIs (eVar 1) (eLit .non))) (tOrT (tOf (eBin gIs (eVar 1) (eLit (.bl true)))) (tOf (eBin gIs (eVar 1) (eLit (.bl false)))))) (sRet (eOr (eAnd (eBin gIs (eVar 1) (eLit .non)) (eBin gIs (eVar 0) (eLit .non))) (eOr (eAnd (eBin gIs (eVar 1) (eLit (.bl true))) (eBin gIs (eVar 0) (eLit (.bl true)))) (eAnd (eBin gIs (eVar 1) (eLit (.bl false))) (eBin gIs (eVar 0) (eLit (.bl false))))))) sNx) (sSeq (sIf (tTru (eUn (gIsi "int") (eVar 1))) (sRet (eAnd (eUn (gIsi "int") (eVar 0)) (eAnd (eNot (eUn (gIsi "bool") (eVar 0))) (eBin gEq (eVar 0) (eVar 1))))) sNx) (sSeq (sIf (tTru (eUn (gIsi "str") (eVar 1))) (sRet (eAnd (eUn (gIsi "str") (eVar 0)) (eBin gEq (eVar 0) (eVar 1)))) sNx) (sSeq (sIf (tTru (eUn (gIsi "dict") (eVar 1))) (sSeq (sIf (tOrT (tNotT (tTru (eUn (gIsi "dict") (eVar 0)))) (tOf (eBin gNe (eCall gLen (aCons (eVar 0) aNil)) (eCall gLen (aCons (eVar 1) aNil))))) (sRet (eLit (.bl false))) sNx) (sSeq (sFor (iSeq (eVar 1)) (tgN 2) (sSeq (sIf (tOrT (tOf (eBin gNotIn (eVar 2) (eVar 0))) (tNotT (tTru (eOwn self [] (aCons (eBin gIx (eVar 0) (eVar 2)) (aCons (eBin gIx (eVar 1) (eVar 2)) aNil)))))) (sRet (eLit (.bl false))) sNx) (sKill 2 sNx))) (sRet (eLit (.bl true))))) sNx) (sSeq (sIf (tAndT (tTru (eUn (gIsi "tuple") (eVar 1))) (tNotT (tTru (eUn (gIsi "tuple") (eVar 0))))) (sRet (eLit (.bl false))) sNx) (sSeq (sIf (tAndT (tTru (eUn (gIsi "list") (eVar 1))) (tNotT (tTru (eUn (gIsi "list") (eVar 0))))) (sRet (eLit (.bl false))) sNx) (sSeq (sIf (tOf (eBin gNe (eCall gLen (aCons (eVar 0) aNil)) (eCall gLen (aCons (eVar 1) aNil)))) (sRet (eLit (.bl false))) sNx) (sSeq (sFor (iR1 (aCons (eCall gLen (aCons (eVar 1) aNil)) aNil)) (tgN 3) (sSeq (sIf (tNotT (tTru (eOwn self [] (aCons (eBin gIx (eVar 0) (eVar 3)) (aCons (eBin gIx (eVar 1) (eVar 3)) aNil))))) (sRet (eLit (.bl false))) sNx) (sKill 3 sNx))) (sRet (eLit (.bl true)))))))))))
noncomputable def semR__law_same : Nat → Sem'
  | 0 => fun _ => none
  | n + 1 => semOf 4 [] (F__law_same (semR__law_same n))
noncomputable abbrev sem__law_same : Sem' := semR__law_same 8
/-! _law_gcd(one, other): 0 one, 1 other, 2 k; changed []; new False -/
noncomputable def F__law_gcd : Fs :=
  (sSeq (sFor (iR1 (aCons (eLit (.int 20000)) aNil)) (tgN 2) (sSeq (sIf (tOf (eBin gEq (eVar 1) (eLit (.int 0)))) (sKill 2 sBrk) sNx) (sSeq (sPar 0 1 (aCons (eVar 1) (aCons (eBin gMod (eCall gInt (aCons (eVar 0) aNil)) (eVar 1)) aNil))) (sKill 2 sNx)))) (sRet (eVar 0)))
noncomputable def sem__law_gcd : Sem' := semOf 3 [] F__law_gcd
/-! _law_ratio(p, q): 0 p, 1 q, 2 shared; changed []; new False -/
noncomputable def F__law_ratio : Fs :=
  (sSeq (sIf (tOf (eBin gLt (eVar 1) (eLit (.int 0)))) (sSeq (sPar 0 1 (aCons (eUn gNeg (eVar 0)) (aCons (eUn gNeg (eVar 1)) aNil))) sNx) sNx) (sSeq (sAsg 2 (eOwn sem__law_gcd [] (aCons (eCall gAbs (aCons (eVar 0) aNil)) (aCons (eVar 1) aNil)))) (sRet (eTup (aCons (eBin gDiv (eVar 0) (eVar 2)) (aCons (eBin gDiv (eVar 1) (eVar 2)) aNil))))))
noncomputable def sem__law_ratio : Sem' := semOf 3 [] F__law_ratio
theorem mixed_spec (number place : Int) : ∃ v : Int, sem__law_mixed [.int number, .int place] = some (.int v, []) ∧ 0 ≤ v := by
  obtain ⟨a1, a2⟩ := fmod_lt (i := number * 48271 + place * 69621 + 11) (M := 618970019642690137449562111) (by decide)
  generalize hf : (number * 48271 + place * 69621 + 11).fmod 618970019642690137449562111 = first at a1 a2
  obtain ⟨b1, b2⟩ := fmod_lt (i := first * first + 7 * first + place) (M := 162259276829213363391578010288127) (by decide)
  generalize hs : (first * first + 7 * first + place).fmod 162259276829213363391578010288127 = second at b1 b2
  obtain ⟨c1, c2⟩ := fmod_lt (i := second * second + first) (M := 618970019642690137449562111) (by decide)
  generalize ht : (second * second + first).fmod 618970019642690137449562111 = third at c1 c2
  have m1 : okMul number 48271 = true := okMul_r (by decide)
  have m2 : okMul place 69621 = true := okMul_r (by decide)
  have f1 : first.natAbs < 2 ^ 100 := by omega
  have f2 : second.natAbs < 2 ^ 120 := by omega
  have m3 : okMul first first = true := okMul_of f1 f1 (by decide)
  have m4 : okMul 7 first = true := okMul_of (n := 10) (by decide) f1 (by decide)
  have m5 : okMul second second = true := okMul_of f2 f2 (by decide)
  have m6 : okMul second 618970019642690137449562111 = true := okMul_of (m := 100) f2 (by decide) (by decide)
  refine ⟨second * 618970019642690137449562111 + third, ?_, ?_⟩
  · simp [sem__law_mixed, F__law_mixed, semOf, m1, m2, m3, m4, m5, m6, hf, hs, ht]
  · have : 0 ≤ second * 618970019642690137449562111 := Int.mul_nonneg b1 (by decide)
    omega
def scr (ns : List Int) : T := .old (ns.map T.int)
theorem scr_at {ns : List Int} {i : Int} (h0 : 0 ≤ i) (h1 : i < ns.length) : ∃ v : Int, atI (ns.map T.int) i = some (T.int v) := by
  obtain ⟨j, rfl⟩ := Int.eq_ofNat_of_zero_le h0
  have hj : j < ns.length := by omega
  refine ⟨ns[j], atI_nat (j := j) ?_⟩
  simp [hj]
theorem gPow18 : gPow (.int 10) (.int 18) = some (.int 1000000000000000000) := by simp
theorem rest_spec (ns : List Int) (place fills : Int) : ∃ v : Int, sem__law_rest [scr ns, .int place, .int fills] = some (.int v, []) ∧ 0 ≤ v := by
  unfold sem__law_rest F__law_rest semOf
  simp only [List.map_cons, List.map_nil, List.length_cons, List.length_nil, List.replicate, List.cons_append, List.nil_append]
  -- the number
  obtain ⟨n0, e0⟩ : ∃ n0 : Int, (sIf (tOf (eBin gGt (eCall gLen (aCons (eVar 0) aNil)) (eLit (.int 0)))) (sSeq (sAsg 3 (eCall gInt (aCons (eBin gIx (eVar 0) (eBin gMod (eCall gInt (aCons (eVar 1) aNil)) (eCall gLen (aCons (eVar 0) aNil)))) aNil))) sNx) sNx)
      [some (scr ns), some (.int place), some (.int fills), some (.int 0)] = some (.nx [some (scr ns), some (.int place), some (.int fills), some (.int n0)]) := by
    by_cases h0 : ns = []
    · subst h0
      exact ⟨0, by simp [scr]⟩
    · have hp := List.length_pos_iff.mpr h0
      have hl : 0 < (ns.length : Int) := by omega
      have hz : (ns.length : Int) ≠ 0 := by omega
      obtain ⟨x, hx⟩ := scr_at (ns := ns) (i := place.fmod ns.length) (fmod_lt hl).1 (fmod_lt hl).2
      exact ⟨x, by simp [scr, hx, hp, h0]⟩
  have m2 : okMul 2 n0 = true := by unfold okMul; simp
  obtain ⟨n1, e1, p1⟩ : ∃ n1 : Int, (sIf (tOf (eBin gLt (eVar 3) (eLit (.int 0)))) (sSeq (sAsg 3 (eBin gSub (eLit (.int 1)) (eBin gMul (eLit (.int 2)) (eVar 3)))) sNx) sNx)
      [some (scr ns), some (.int place), some (.int fills), some (.int n0)] = some (.nx [some (scr ns), some (.int place), some (.int fills), some (.int n1)]) ∧ 0 ≤ n1 := by
    by_cases h : n0 < 0
    · exact ⟨1 - 2 * n0, by simp [h, m2], by omega⟩
    · exact ⟨n0, by simp [h], by omega⟩
  rw [sSeq_nx (γ' := [some (scr ns), some (.int place), some (.int fills), some (.int 0)]) (by simp), sSeq_nx e0, sSeq_nx e1]
  obtain ⟨v, h1, h2⟩ := mixed_spec (n1 + fills * 1000003) place
  have m1 : okMul fills 1000003 = true := okMul_r (by decide)
  by_cases c : fills = 0 ∧ place < ns.length ∧ 1000000000000000000 ≤ n1
  · obtain ⟨c1, c2, c3⟩ := c
    exact ⟨n1 - 1000000000000000000, by simp [c1, c2, c3, scr], by omega⟩
  · refine ⟨v, ?_, h2⟩
    rw [sSeq_nx (γ' := [some (scr ns), some (.int place), some (.int fills), some (.int n1)])]
    · simp [m1, h1]
    · by_cases c1 : fills = 0
      · by_cases c2 : place < ns.length
        · have c3 : ¬ 1000000000000000000 ≤ n1 := fun h => c ⟨c1, c2, h⟩
          simp [c1, c2, c3, scr]
        · simp [c1, c2, scr]
      · simp [c1]
/-- a pool -/
def Pool (ns : List Int) (p : T) : Prop := ∃ place rest fills : Int, p = .lst [scr ns, .int place, .int rest, .int fills] ∧ 0 ≤ rest
theorem pool_spec (ns : List Int) : ∃ p, sem__law_pool [scr ns] = some (p, []) ∧ Pool ns p := by
  obtain ⟨v, h1, h2⟩ := rest_spec ns 0 0
  exact ⟨_, by simp [sem__law_pool, F__law_pool, semOf, h1, PySem.sizeLine], 0, v, 0, rfl, h2⟩
theorem ixN4 (i : Nat) (h : i < 4) : ixN 4 (i : Nat) = some i := by
  unfold ixN
  simp
  omega
theorem next_spec {ns : List Int} {p : T} (h : Pool ns p) : ∃ p', sem__law_next [p] = some (.non, [p']) ∧ Pool ns p' := by
  obtain ⟨place, rest, fills, rfl, h0⟩ := h
  obtain ⟨v, h1, h2⟩ := rest_spec ns (place + 1) 0
  refine ⟨.lst [scr ns, .int (place + 1), .int v, .int 0], ?_, place + 1, v, 0, rfl, h2⟩
  have a1 := ixN4 1 (by decide)
  have a2 := ixN4 2 (by decide)
  have a3 := ixN4 3 (by decide)
  simp [sem__law_next, F__law_next, semOf, h1] at a1 a2 a3 ⊢
  simp [a1, a2, a3, h1]
theorem draw_spec {ns : List Int} {p : T} (h : Pool ns p) {n : Int} (hn : 0 < n) (hb : n < 2 ^ 64) : ∃ (v : Int) (p' : T), sem__law_draw [p, .int n] = some (.int v, [p']) ∧ Pool ns p' ∧ 0 ≤ v ∧ v < n := by
  obtain ⟨place, rest, fills, rfl, h0⟩ := h
  have hz : n ≠ 0 := by omega
  have hd : okDiv n = true := okDiv_of (m := 64) hz (by omega) (by decide)
  have a1 := ixN4 1 (by decide)
  have a2 := ixN4 2 (by decide)
  have a3 := ixN4 3 (by decide)
  by_cases c : rest ≤ 1
  · obtain ⟨v, h1, h2⟩ := rest_spec ns place (fills + 1)
    refine ⟨v.fmod n, .lst [scr ns, .int place, .int (v.fdiv n), .int (fills + 1)], ?_, ⟨place, v.fdiv n, fills + 1, rfl, Int.fdiv_nonneg h2 (by omega)⟩, (fmod_lt hn).1, (fmod_lt hn).2⟩
    simp at a1 a2 a3
    simp [sem__law_draw, F__law_draw, semOf, h1, a1, a2, a3, c, hz, hd]
  · refine ⟨rest.fmod n, .lst [scr ns, .int place, .int (rest.fdiv n), .int fills], ?_, ⟨place, rest.fdiv n, fills, rfl, Int.fdiv_nonneg h0 (by omega)⟩, (fmod_lt hn).1, (fmod_lt hn).2⟩
    simp at a1 a2 a3
    simp [sem__law_draw, F__law_draw, semOf, a1, a2, a3, c, hz, hd]
theorem pick_spec {ns : List Int} {p : T} (h : Pool ns p) {ts : List T} (hn : ts ≠ []) (hb : ts.length < 2 ^ 64) : ∃ (v : T) (p' : T), sem__law_pick [p, .lst ts] = some (v, [p']) ∧ Pool ns p' ∧ v ∈ ts := by
  have hp := List.length_pos_iff.mpr hn
  obtain ⟨v, p', h1, h2, h3, h4⟩ := draw_spec h (n := (ts.length : Int)) (by omega) (by omega)
  obtain ⟨j, rfl⟩ := Int.eq_ofNat_of_zero_le h3
  have hj : j < ts.length := by omega
  refine ⟨ts[j], p', ?_, h2, List.getElem_mem hj⟩
  have e : atI ts (j : Int) = some ts[j] := atI_nat (by simp [hj])
  simp [sem__law_pick, F__law_pick, semOf, h1, e]

theorem same_str (n : Nat) (x : PySem.Str) (h : PySem.PyData.strOk x = true) : semR__law_same (n + 1) [.str x, .str x] = some (.bl true, []) := by
  have h1 : gEq (.str x) (.str x) = some (.bl true) := by
    unfold gEq
    rw [show okT (.str x) = true from by simpa [okT, okN, okS] using h, eqT_refl 60 (.str x) (by simpa [okN, okS] using h)]
    rfl
  simp [semR__law_same, F__law_same, semOf, h1]
abbrev sameF (self : Sem') : Fs := (sSeq (sIf (tNotT (tTru (eOwn self [] (aCons (eBin gIx (eVar 0) (eVar 3)) (aCons (eBin gIx (eVar 1) (eVar 3)) aNil))))) (sRet (eLit (.bl false))) sNx) (sKill 3 sNx))
theorem same_loopL {self : Sem'} {ts : List T} (ih : ∀ t ∈ ts, self [t, t] = some (.bl true, [])) : forL (tgN 3) (sameF self) (rngT 0 ts.length) [some (.lst ts), some (.lst ts), none, none] = some (.nx [some (.lst ts), some (.lst ts), none, none]) := by
  refine forL_all fun t ht => ?_
  obtain ⟨k, hk, rfl⟩ := rngT_mem ht
  have e : atI ts (k : Int) = some ts[k] := atI_nat (by simp [hk])
  have r := ih ts[k] (List.getElem_mem hk)
  exact ⟨_, r_tgN, by simp [e, r]⟩
theorem same_loopT {self : Sem'} {ts : List T} (ih : ∀ t ∈ ts, self [t, t] = some (.bl true, [])) : forL (tgN 3) (sameF self) (rngT 0 ts.length) [some (.tup ts), some (.tup ts), none, none] = some (.nx [some (.tup ts), some (.tup ts), none, none]) := by
  refine forL_all fun t ht => ?_
  obtain ⟨k, hk, rfl⟩ := rngT_mem ht
  have e : atI ts (k : Int) = some ts[k] := atI_nat (by simp [hk])
  have r := ih ts[k] (List.getElem_mem hk)
  exact ⟨_, r_tgN, by simp [e, r]⟩
theorem ir1_len {ts : List T} {a : Ax} {γ γ' : En} (h : ts.length < 1000000000) (ha : a γ = some ([.int (ts.length : Nat)], γ')) : iR1 a γ = some (rngT 0 ts.length, γ') := by
  unfold iR1
  rw [ha]
  simp only
  rw [if_pos (by omega)]
  rfl
theorem same_lst {self : Sem'} {ts : List T} (hl : ts.length < 1000000000) (ih : ∀ t ∈ ts, self [t, t] = some (.bl true, [])) : semOf 4 [] (F__law_same self) [.lst ts, .lst ts] = some (.bl true, []) := by
  have lp := same_loopL ih
  have hr : iR1 (aCons (eCall gLen (aCons (eVar 1) aNil)) aNil) [some (.lst ts), some (.lst ts), none, none] = some (rngT 0 ts.length, [some (.lst ts), some (.lst ts), none, none]) := ir1_len hl (by simp)
  have hf : sFor (iR1 (aCons (eCall gLen (aCons (eVar 1) aNil)) aNil)) (tgN 3) (sameF self) [some (.lst ts), some (.lst ts), none, none] = some (.nx [some (.lst ts), some (.lst ts), none, none]) := by
    rw [r_for, hr]
    exact lp
  refine semOf_rt (γ := [some (.lst ts), some (.lst ts), none, none]) (γ' := [some (.lst ts), some (.lst ts), none, none]) rfl ?_
  unfold F__law_same
  rw [sIf_no (γ' := [some (.lst ts), some (.lst ts), none, none]) (by simp), sIf_no (γ' := [some (.lst ts), some (.lst ts), none, none]) (by simp), sIf_no (γ' := [some (.lst ts), some (.lst ts), none, none]) (by simp), sIf_no (γ' := [some (.lst ts), some (.lst ts), none, none]) (by simp), sIf_no (γ' := [some (.lst ts), some (.lst ts), none, none]) (by simp), sIf_no (γ' := [some (.lst ts), some (.lst ts), none, none]) (by simp), sIf_no (γ' := [some (.lst ts), some (.lst ts), none, none]) (by simp), sSeq_nx hf]
  simp
theorem same_tup {self : Sem'} {ts : List T} (hl : ts.length < 1000000000) (ih : ∀ t ∈ ts, self [t, t] = some (.bl true, [])) : semOf 4 [] (F__law_same self) [.tup ts, .tup ts] = some (.bl true, []) := by
  have lp := same_loopT ih
  have hr : iR1 (aCons (eCall gLen (aCons (eVar 1) aNil)) aNil) [some (.tup ts), some (.tup ts), none, none] = some (rngT 0 ts.length, [some (.tup ts), some (.tup ts), none, none]) := ir1_len hl (by simp)
  have hf : sFor (iR1 (aCons (eCall gLen (aCons (eVar 1) aNil)) aNil)) (tgN 3) (sameF self) [some (.tup ts), some (.tup ts), none, none] = some (.nx [some (.tup ts), some (.tup ts), none, none]) := by
    rw [r_for, hr]
    exact lp
  refine semOf_rt (γ := [some (.tup ts), some (.tup ts), none, none]) (γ' := [some (.tup ts), some (.tup ts), none, none]) rfl ?_
  unfold F__law_same
  rw [sIf_no (γ' := [some (.tup ts), some (.tup ts), none, none]) (by simp), sIf_no (γ' := [some (.tup ts), some (.tup ts), none, none]) (by simp), sIf_no (γ' := [some (.tup ts), some (.tup ts), none, none]) (by simp), sIf_no (γ' := [some (.tup ts), some (.tup ts), none, none]) (by simp), sIf_no (γ' := [some (.tup ts), some (.tup ts), none, none]) (by simp), sIf_no (γ' := [some (.tup ts), some (.tup ts), none, none]) (by simp), sIf_no (γ' := [some (.tup ts), some (.tup ts), none, none]) (by simp), sSeq_nx hf]
  simp
theorem same_self (n : Nat) : ∀ (t : T), okS n t = true → semR__law_same (n + 1) [t, t] = some (.bl true, []) := by
  induction n with
  | zero =>
    intro t h
    cases t with
    | non => simp [semR__law_same, F__law_same, semOf]
    | bl b => cases b <;> simp [semR__law_same, F__law_same, semOf]
    | int i => simp [semR__law_same, F__law_same, semOf]
    | str x => exact same_str 0 x (by simpa [okS] using h)
    | lst ts => simp [okS] at h
    | tup ts => simp [okS] at h
    | dct ks vs => simp [okS] at h
    | old ts => simp [okS] at h
  | succ n ih =>
    intro t h
    cases t with
    | non => simp [semR__law_same, F__law_same, semOf]
    | bl b => cases b <;> simp [semR__law_same, F__law_same, semOf]
    | int i => simp [semR__law_same, F__law_same, semOf]
    | str x => exact same_str _ x (by simpa [okS] using h)
    | dct ks vs => simp [okS] at h
    | old ts => simp [okS] at h
    | lst ts =>
      simp only [okS, Bool.and_eq_true, decide_eq_true_eq, List.all_eq_true] at h
      exact same_lst h.1 fun t ht => ih t (h.2 t ht)
    | tup ts =>
      simp only [okS, Bool.and_eq_true, decide_eq_true_eq, List.all_eq_true] at h
      exact same_tup h.1 fun t ht => ih t (h.2 t ht)
/-- Euclid's steps -/
abbrev gcdF : Fs := (sSeq (sIf (tOf (eBin gEq (eVar 1) (eLit (.int 0)))) (sKill 2 sBrk) sNx) (sSeq (sPar 0 1 (aCons (eVar 1) (aCons (eBin gMod (eCall gInt (aCons (eVar 0) aNil)) (eVar 1)) aNil))) (sKill 2 sNx)))
theorem gcd_brk {t : T} {ts : List T} {a : Nat} {o : Option T} : forL (tgN 2) gcdF (t :: ts) [some (.int a), some (.int (0 : Nat)), o] = some (.nx [some (.int a), some (.int (0 : Nat)), none]) := by
  rw [forL_cons (γ1 := [some (.int a), some (.int (0 : Nat)), some t]) rfl]
  simp
theorem gcd_stp {t : T} {ts : List T} {a b : Nat} {o : Option T} (hb : b ≠ 0) : forL (tgN 2) gcdF (t :: ts) [some (.int a), some (.int b), o] = forL (tgN 2) gcdF ts [some (.int b), some (.int (a % b : Nat)), none] := by
  have e : (a : Int).fmod (b : Int) = ((a % b : Nat) : Int) := by
    rw [Int.fmod_eq_emod_of_nonneg _ (by omega)]
    rfl
  rw [forL_step (γ1 := [some (.int a), some (.int b), some t]) (γ2 := [some (.int b), some (.int (a % b : Nat)), none]) rfl]
  simp [hb, e]
theorem gcd_loop : ∀ (n : Nat) (ts : List T) (a b : Nat) (o : Option T), b < 2 ^ n → 2 * n + 1 ≤ ts.length → forL (tgN 2) gcdF ts [some (.int a), some (.int b), o] = some (.nx [some (.int (Nat.gcd a b : Nat)), some (.int (0 : Nat)), none])
  | 0, t :: ts, a, b, o, hb, _ => by
    have e : b = 0 := by omega
    subst e
    rw [gcd_brk, Nat.gcd_zero_right]
  | n + 1, t :: t2 :: ts, a, b, o, hb, hl => by
    by_cases h0 : b = 0
    · subst h0
      rw [gcd_brk, Nat.gcd_zero_right]
    · rw [gcd_stp h0, Nat.gcd_comm a b, Nat.gcd_rec b a]
      have hr := Nat.mod_lt a (Nat.pos_of_ne_zero h0)
      by_cases h1 : a % b = 0
      · rw [h1, gcd_brk, Nat.gcd_zero_left]
      · have h2 : b % (a % b) < 2 ^ n := by
          have h3 := Nat.mod_lt b (Nat.pos_of_ne_zero h1)
          have h4 := Nat.div_add_mod b (a % b)
          have h5 : 1 ≤ b / (a % b) := Nat.div_pos (by omega) (Nat.pos_of_ne_zero h1)
          have h6 : a % b ≤ (a % b) * (b / (a % b)) := Nat.le_mul_of_pos_right _ h5
          have h7 : 2 ^ (n + 1) = 2 * 2 ^ n := by rw [Nat.pow_succ, Nat.mul_comm]
          omega
        rw [gcd_stp h1, gcd_loop n ts (a % b) (b % (a % b)) none h2 (by simp at hl; omega)]
        rw [Nat.gcd_comm (a % b) (b % (a % b)), ← Nat.gcd_rec (a % b) b]
  | 0, [], _, _, _, _, hl => by simp at hl
  | n + 1, [], _, _, _, _, hl => by simp at hl
  | n + 1, [_], _, _, _, _, hl => by simp at hl
theorem gcd_spec (a b : Nat) {n : Nat} (hb : b < 2 ^ n) (hn : n ≤ 9000) : sem__law_gcd [.int a, .int b] = some (.int (Nat.gcd a b : Nat), []) := by
  have h := gcd_loop n (rngT 0 20000) a b none hb (by simp; omega)
  unfold sem__law_gcd F__law_gcd semOf
  simp at h ⊢
  rw [h]
  simp
/-- fractions in lowest terms -/
def qT (x : Rat) : T := .tup [.int x.num, .int x.den]
theorem rat_parts (p q : Int) (hq : 0 < q) : ((p : Rat) / q).num = p / (Int.gcd q p : Int) ∧ (((p : Rat) / q).den : Int) = q / (Int.gcd q p : Int) := by
  rw [← Rat.divInt_eq_div, Rat.num_divInt, Rat.den_divInt, if_neg (by omega), Int.sign_eq_one_of_pos hq, Int.one_mul]
  refine ⟨rfl, ?_⟩
  rw [Int.natCast_ediv]
  congr 1
  omega
theorem ratio_pos (p q : Int) (hq : 0 < q) {n : Nat} (hb : q.natAbs < 2 ^ n) (hn : n ≤ 9000) : sem__law_ratio [.int p, .int q] = some (qT ((p : Rat) / q), []) := by
  obtain ⟨h1, h2⟩ := rat_parts p q hq
  have hg := gcd_spec p.natAbs q.natAbs hb hn
  have ea : (p.natAbs : Int) = if p < 0 then -p else p := by split <;> omega
  have eq : (q.natAbs : Int) = q := by omega
  have eg : Nat.gcd p.natAbs q.natAbs = Int.gcd q p := by rw [Nat.gcd_comm]; rfl
  rw [ea, eq, eg] at hg
  have g0 : 0 < Int.gcd q p := Int.gcd_pos_of_ne_zero_left _ (by omega)
  have hgl : Int.gcd q p ≤ q.natAbs := Nat.gcd_le_left _ (by omega)
  have hd : okDiv (Int.gcd q p : Int) = true := okDiv_of (m := n) (by omega) (by omega) hn
  have c : ¬ q < 0 := by omega
  simp [sem__law_ratio, F__law_ratio, semOf, c, hg, hd, PySem.sizeLine, qT, h1, h2]
  exact ⟨Int.fdiv_eq_ediv_of_nonneg _ (by omega), Int.fdiv_eq_ediv_of_nonneg _ (by omega)⟩
theorem ratio_spec (p q : Int) (hq : q ≠ 0) {n : Nat} (hb : q.natAbs < 2 ^ n) (hn : n ≤ 9000) : sem__law_ratio [.int p, .int q] = some (qT ((p : Rat) / q), []) := by
  by_cases c : q < 0
  · have h := ratio_pos (-p) (-q) (by omega) (n := n) (by omega) hn
    have e : (((-p : Int) : Rat) / ((-q : Int) : Rat)) = (p : Rat) / q := by
      rw [Rat.intCast_neg, Rat.intCast_neg]
      grind
    rw [e] at h
    have c2 : ¬ -q < 0 := by omega
    have c3 : ¬ 0 < q := by omega
    rw [← h]
    unfold sem__law_ratio F__law_ratio semOf
    simp only [List.map_cons, List.map_nil, List.length_cons, List.length_nil, List.replicate, List.cons_append, List.nil_append]
    have a1 := sSeq_nx (F1 := sIf (tOf (eBin gLt (eVar 1) (eLit (.int 0)))) (sSeq (sPar 0 1 (aCons (eUn gNeg (eVar 0)) (aCons (eUn gNeg (eVar 1)) aNil))) sNx) sNx) (F2 := (sSeq (sAsg 2 (eOwn sem__law_gcd [] (aCons (eCall gAbs (aCons (eVar 0) aNil)) (aCons (eVar 1) aNil)))) (sRet (eTup (aCons (eBin gDiv (eVar 0) (eVar 2)) (aCons (eBin gDiv (eVar 1) (eVar 2)) aNil)))))) (γ := [some (.int p), some (.int q), none]) (γ' := [some (.int (-p)), some (.int (-q)), none]) (by simp [c])
    have a2 := sSeq_nx (F1 := sIf (tOf (eBin gLt (eVar 1) (eLit (.int 0)))) (sSeq (sPar 0 1 (aCons (eUn gNeg (eVar 0)) (aCons (eUn gNeg (eVar 1)) aNil))) sNx) sNx) (F2 := (sSeq (sAsg 2 (eOwn sem__law_gcd [] (aCons (eCall gAbs (aCons (eVar 0) aNil)) (aCons (eVar 1) aNil)))) (sRet (eTup (aCons (eBin gDiv (eVar 0) (eVar 2)) (aCons (eBin gDiv (eVar 1) (eVar 2)) aNil)))))) (γ := [some (.int (-p)), some (.int (-q)), none]) (γ' := [some (.int (-p)), some (.int (-q)), none]) (by simp [c3])
    rw [a1, a2]
  · exact ratio_pos p q (by omega) hb hn
/-- how great a fraction's parts may be -/
def Sz (n : Nat) (x : Rat) : Prop := x.num.natAbs < 2 ^ n ∧ x.den < 2 ^ n
theorem Sz.mono {n m : Nat} {x : Rat} (h : Sz n x) (hm : n ≤ m) : Sz m x := ⟨Nat.lt_of_lt_of_le h.1 (Nat.pow_le_pow_right (by decide) hm), Nat.lt_of_lt_of_le h.2 (Nat.pow_le_pow_right (by decide) hm)⟩
theorem Sz.div {p q : Int} {n : Nat} (h : p.natAbs < 2 ^ n) (h2 : q.natAbs < 2 ^ n) (h0 : q ≠ 0) : Sz n ((p : Rat) / q) := by
  rw [← Rat.divInt_eq_div]
  unfold Sz
  rw [Rat.num_divInt, Rat.den_divInt, if_neg h0]
  have g0 : 0 < Int.gcd q p := Int.gcd_pos_of_ne_zero_left _ h0
  refine ⟨?_, Nat.lt_of_le_of_lt (Nat.div_le_self _ _) h2⟩
  have : (q.sign * p / (Int.gcd q p : Int)).natAbs ≤ (q.sign * p).natAbs := Int.natAbs_ediv_le_natAbs _ _
  rw [Int.natAbs_mul] at this
  have h4 : q.sign.natAbs = 1 := Int.natAbs_sign_of_ne_zero h0
  rw [h4] at this
  omega
end LawP

namespace LawP
open Tw L2
/-! frac(p, q): 0 p, 1 q, 2 shared; changed []; new False -/
noncomputable def F_frac : Fs :=
  (sSeq (sAsg 2 (eIf (tOf (eBin gGt (eVar 1) (eLit (.int 0)))) (eCall gGcd (aCons (eVar 0) (aCons (eVar 1) aNil))) (eUn gNeg (eCall gGcd (aCons (eVar 0) (aCons (eVar 1) aNil)))))) (sRet (eTup (aCons (eBin gDiv (eVar 0) (eVar 2)) (aCons (eBin gDiv (eVar 1) (eVar 2)) aNil)))))
noncomputable def sem_frac : Sem' := semOf 3 [] F_frac
/-! plus(a, b): 0 a, 1 b; changed []; new False -/
noncomputable def F_plus : Fs :=
  (sRet (eOwn sem_frac [] (aCons (eBin gAdd (eBin gMul (eBin gIx (eVar 0) (eLit (.int 0))) (eBin gIx (eVar 1) (eLit (.int 1)))) (eBin gMul (eBin gIx (eVar 1) (eLit (.int 0))) (eBin gIx (eVar 0) (eLit (.int 1))))) (aCons (eBin gMul (eBin gIx (eVar 0) (eLit (.int 1))) (eBin gIx (eVar 1) (eLit (.int 1)))) aNil))))
noncomputable def sem_plus : Sem' := semOf 2 [] F_plus
/-! minus(a, b): 0 a, 1 b; changed []; new False -/
noncomputable def F_minus : Fs :=
  (sRet (eOwn sem_frac [] (aCons (eBin gSub (eBin gMul (eBin gIx (eVar 0) (eLit (.int 0))) (eBin gIx (eVar 1) (eLit (.int 1)))) (eBin gMul (eBin gIx (eVar 1) (eLit (.int 0))) (eBin gIx (eVar 0) (eLit (.int 1))))) (aCons (eBin gMul (eBin gIx (eVar 0) (eLit (.int 1))) (eBin gIx (eVar 1) (eLit (.int 1)))) aNil))))
noncomputable def sem_minus : Sem' := semOf 2 [] F_minus
/-! times(a, b): 0 a, 1 b; changed []; new False -/
noncomputable def F_times : Fs :=
  (sRet (eOwn sem_frac [] (aCons (eBin gMul (eBin gIx (eVar 0) (eLit (.int 0))) (eBin gIx (eVar 1) (eLit (.int 0)))) (aCons (eBin gMul (eBin gIx (eVar 0) (eLit (.int 1))) (eBin gIx (eVar 1) (eLit (.int 1)))) aNil))))
noncomputable def sem_times : Sem' := semOf 2 [] F_times
/-! over(a, b): 0 a, 1 b; changed []; new False -/
noncomputable def F_over : Fs :=
  (sRet (eOwn sem_frac [] (aCons (eBin gMul (eBin gIx (eVar 0) (eLit (.int 0))) (eBin gIx (eVar 1) (eLit (.int 1)))) (aCons (eBin gMul (eBin gIx (eVar 0) (eLit (.int 1))) (eBin gIx (eVar 1) (eLit (.int 0)))) aNil))))
noncomputable def sem_over : Sem' := semOf 2 [] F_over
/-! negative(a): 0 a; changed []; new False -/
noncomputable def F_negative : Fs :=
  (sRet (eTup (aCons (eUn gNeg (eBin gIx (eVar 0) (eLit (.int 0)))) (aCons (eBin gIx (eVar 0) (eLit (.int 1))) aNil))))
noncomputable def sem_negative : Sem' := semOf 1 [] F_negative
/-! _law_add(one, other): 0 one, 1 other; changed []; new False -/
noncomputable def F__law_add : Fs :=
  (sRet (eOwn sem__law_ratio [] (aCons (eBin gAdd (eBin gMul (eBin gIx (eVar 0) (eLit (.int 0))) (eBin gIx (eVar 1) (eLit (.int 1)))) (eBin gMul (eBin gIx (eVar 1) (eLit (.int 0))) (eBin gIx (eVar 0) (eLit (.int 1))))) (aCons (eBin gMul (eBin gIx (eVar 0) (eLit (.int 1))) (eBin gIx (eVar 1) (eLit (.int 1)))) aNil))))
noncomputable def sem__law_add : Sem' := semOf 2 [] F__law_add
/-! _law_sub(one, other): 0 one, 1 other; changed []; new False -/
noncomputable def F__law_sub : Fs :=
  (sRet (eOwn sem__law_ratio [] (aCons (eBin gSub (eBin gMul (eBin gIx (eVar 0) (eLit (.int 0))) (eBin gIx (eVar 1) (eLit (.int 1)))) (eBin gMul (eBin gIx (eVar 1) (eLit (.int 0))) (eBin gIx (eVar 0) (eLit (.int 1))))) (aCons (eBin gMul (eBin gIx (eVar 0) (eLit (.int 1))) (eBin gIx (eVar 1) (eLit (.int 1)))) aNil))))
noncomputable def sem__law_sub : Sem' := semOf 2 [] F__law_sub
/-! _law_mul(one, other): 0 one, 1 other; changed []; new False -/
noncomputable def F__law_mul : Fs :=
  (sRet (eOwn sem__law_ratio [] (aCons (eBin gMul (eBin gIx (eVar 0) (eLit (.int 0))) (eBin gIx (eVar 1) (eLit (.int 0)))) (aCons (eBin gMul (eBin gIx (eVar 0) (eLit (.int 1))) (eBin gIx (eVar 1) (eLit (.int 1)))) aNil))))
noncomputable def sem__law_mul : Sem' := semOf 2 [] F__law_mul
theorem fdiv_neg_exact {p g : Int} (hg : g ≠ 0) (h : g ∣ p) : p.fdiv (-g) = -(p / g) := by
  obtain ⟨k, rfl⟩ := h
  rw [Int.mul_ediv_cancel_left _ hg, show g * k = (-g) * (-k) by rw [Int.neg_mul_neg], Int.mul_fdiv_cancel_left _ (by omega)]
theorem frac_spec (p q : Int) (hq : q ≠ 0) {n : Nat} (hb : q.natAbs < 2 ^ n) (hn : n ≤ 9000) : sem_frac [.int p, .int q] = some (qT ((p : Rat) / q), []) := by
  have g0 : 0 < Int.gcd q p := Int.gcd_pos_of_ne_zero_left _ hq
  have hgl : Int.gcd q p ≤ q.natAbs := Nat.gcd_le_left _ (by omega)
  have eg : Nat.gcd p.natAbs q.natAbs = Int.gcd q p := by rw [Nat.gcd_comm]; rfl
  have hd : okDiv (Int.gcd q p : Int) = true := okDiv_of (m := n) (by omega) (by omega) hn
  have hd2 : okDiv (-(Int.gcd q p : Int)) = true := okDiv_of (m := n) (by omega) (by omega) hn
  by_cases c : 0 < q
  · obtain ⟨h1, h2⟩ := rat_parts p q c
    simp [sem_frac, F_frac, semOf, c, eg, hd, PySem.sizeLine, qT, h1, h2]
    exact ⟨Int.fdiv_eq_ediv_of_nonneg _ (by omega), Int.fdiv_eq_ediv_of_nonneg _ (by omega)⟩
  · have e : (((-p : Int) : Rat) / ((-q : Int) : Rat)) = (p : Rat) / q := by
      rw [Rat.intCast_neg, Rat.intCast_neg]
      grind
    obtain ⟨h1, h2⟩ := rat_parts (-p) (-q) (by omega)
    rw [e] at h1 h2
    have e2 : Int.gcd (-q) (-p) = Int.gcd q p := by rw [Int.gcd_neg, Int.neg_gcd]
    rw [e2] at h1 h2
    simp [sem_frac, F_frac, semOf, c, eg, hd2, PySem.sizeLine, qT, h1, h2]
    have d1 : (Int.gcd q p : Int) ∣ p := Int.gcd_dvd_right ..
    have d2 : (Int.gcd q p : Int) ∣ q := Int.gcd_dvd_left ..
    rw [fdiv_neg_exact (by omega) d1, fdiv_neg_exact (by omega) d2, Int.neg_ediv_of_dvd d1, Int.neg_ediv_of_dvd d2]
    exact ⟨rfl, rfl⟩
theorem rat_eq (a : Rat) : a = (a.num : Rat) / ((a.den : Int) : Rat) := by
  rw [← Rat.divInt_eq_div]
  exact (Rat.num_divInt_den a).symm
theorem den_ne (a : Rat) : ((a.den : Int) : Rat) ≠ 0 := by
  have := a.den_nz
  intro h
  have : (a.den : Int) = 0 := by exact_mod_cast h
  omega
theorem mul_pow {a b n m : Nat} (h : a < 2 ^ n) (h2 : b < 2 ^ m) : a * b < 2 ^ (n + m) := by
  rw [Nat.pow_add]
  exact Nat.mul_lt_mul'' h h2
theorem pow_mono {a n m : Nat} (h : a < 2 ^ n) (hm : n ≤ m) : a < 2 ^ m := Nat.lt_of_lt_of_le h (Nat.pow_le_pow_right (by decide) hm)
section
variable {a b : Rat} {n m : Nat}
theorem ok_nd (ha : Sz n a) (hb : Sz m b) (h : n + m + 1 ≤ 9000) : okMul a.num b.den = true := okMul_of (i := a.num) (j := (b.den : Int)) ha.1 (by simpa using hb.2) (by omega)
theorem ok_nn (ha : Sz n a) (hb : Sz m b) (h : n + m + 1 ≤ 9000) : okMul a.num b.num = true := okMul_of ha.1 hb.1 (by omega)
theorem ok_dd (ha : Sz n a) (hb : Sz m b) (h : n + m + 1 ≤ 9000) : okMul a.den b.den = true := okMul_of (i := (a.den : Int)) (j := (b.den : Int)) (by simpa using ha.2) (by simpa using hb.2) (by omega)
theorem ok_dn (ha : Sz n a) (hb : Sz m b) (h : n + m + 1 ≤ 9000) : okMul a.den b.num = true := okMul_of (i := (a.den : Int)) (by simpa using ha.2) hb.1 (by omega)
theorem bd_dd (ha : Sz n a) (hb : Sz m b) : ((a.den : Int) * (b.den : Int)).natAbs < 2 ^ (n + m) := by
  rw [Int.natAbs_mul]
  exact mul_pow (by simpa using ha.2) (by simpa using hb.2)
theorem bd_nd (ha : Sz n a) (hb : Sz m b) : (a.num * (b.den : Int)).natAbs < 2 ^ (n + m) := by
  rw [Int.natAbs_mul]
  exact mul_pow ha.1 (by simpa using hb.2)
theorem bd_nn (ha : Sz n a) (hb : Sz m b) : (a.num * b.num).natAbs < 2 ^ (n + m) := by
  rw [Int.natAbs_mul]
  exact mul_pow ha.1 hb.1
theorem dd_ne : (a.den : Int) * (b.den : Int) ≠ 0 := by
  have h1 := a.den_nz
  have h2 := b.den_nz
  exact Int.mul_ne_zero (by omega) (by omega)
theorem p2 (k : Nat) : 2 ^ (k + 1) = 2 * 2 ^ k := by rw [Nat.pow_succ, Nat.mul_comm]
theorem add_parts : (((a.num * b.den + b.num * a.den : Int) : Rat) / ((a.den * b.den : Int) : Rat)) = a + b := by
  have h1 := den_ne a
  have h2 := den_ne b
  conv => rhs; rw [rat_eq a, rat_eq b]
  rw [Rat.intCast_add, Rat.intCast_mul, Rat.intCast_mul, Rat.intCast_mul]
  grind
theorem sub_parts : (((a.num * b.den - b.num * a.den : Int) : Rat) / ((a.den * b.den : Int) : Rat)) = a - b := by
  have h1 := den_ne a
  have h2 := den_ne b
  conv => rhs; rw [rat_eq a, rat_eq b]
  rw [Rat.intCast_sub, Rat.intCast_mul, Rat.intCast_mul, Rat.intCast_mul]
  grind
theorem mul_parts : (((a.num * b.num : Int) : Rat) / ((a.den * b.den : Int) : Rat)) = a * b := by
  have h1 := den_ne a
  have h2 := den_ne b
  conv => rhs; rw [rat_eq a, rat_eq b]
  rw [Rat.intCast_mul, Rat.intCast_mul]
  grind
theorem div_parts (h0 : b ≠ 0) : (((a.num * b.den : Int) : Rat) / ((a.den * b.num : Int) : Rat)) = a / b := by
  have h1 := den_ne a
  have h2 := den_ne b
  have h3 : (b.num : Rat) ≠ 0 := by
    intro h
    apply h0
    have : b.num = 0 := by exact_mod_cast h
    exact Rat.num_eq_zero.mp this
  conv => rhs; rw [rat_eq a, rat_eq b]
  rw [Rat.intCast_mul, Rat.intCast_mul]
  grind
theorem sz_add (ha : Sz n a) (hb : Sz m b) : Sz (n + m + 1) (a + b) := by
  rw [← add_parts]
  have h1 := bd_nd ha hb
  have h2 := bd_nd hb ha
  rw [Nat.add_comm m n] at h2
  have h3 := p2 (n + m)
  exact Sz.div (by omega) (pow_mono (bd_dd ha hb) (by omega)) dd_ne
theorem sz_sub (ha : Sz n a) (hb : Sz m b) : Sz (n + m + 1) (a - b) := by
  rw [← sub_parts]
  have h1 := bd_nd ha hb
  have h2 := bd_nd hb ha
  rw [Nat.add_comm m n] at h2
  have h3 := p2 (n + m)
  exact Sz.div (by omega) (pow_mono (bd_dd ha hb) (by omega)) dd_ne
theorem sz_mul (ha : Sz n a) (hb : Sz m b) : Sz (n + m) (a * b) := by
  rw [← mul_parts]
  exact Sz.div (bd_nn ha hb) (bd_dd ha hb) dd_ne
theorem sz_div (ha : Sz n a) (hb : Sz m b) (h0 : b ≠ 0) : Sz (n + m) (a / b) := by
  rw [← div_parts h0]
  have h2 := a.den_nz
  have h3 : b.num ≠ 0 := fun h => h0 (Rat.num_eq_zero.mp h)
  refine Sz.div (bd_nd ha hb) ?_ (Int.mul_ne_zero (by omega) h3)
  rw [Int.natAbs_mul]
  exact mul_pow (by simpa using ha.2) hb.1
theorem sz_neg (ha : Sz n a) : Sz n (-a) := by
  unfold Sz
  rw [Rat.neg_num, Rat.neg_den, Int.natAbs_neg]
  exact ha
theorem plus_spec (ha : Sz n a) (hb : Sz m b) (h : n + m + 1 ≤ 9000) : sem_plus [qT a, qT b] = some (qT (a + b), []) := by
  have hf := frac_spec (a.num * b.den + b.num * a.den) (a.den * b.den) dd_ne (bd_dd ha hb) (by omega)
  rw [add_parts] at hf
  simp [sem_plus, F_plus, semOf, qT, ok_nd ha hb h, ok_nd hb ha (by omega), ok_dd ha hb h]
  rw [hf]
  rfl
theorem minus_spec (ha : Sz n a) (hb : Sz m b) (h : n + m + 1 ≤ 9000) : sem_minus [qT a, qT b] = some (qT (a - b), []) := by
  have hf := frac_spec (a.num * b.den - b.num * a.den) (a.den * b.den) dd_ne (bd_dd ha hb) (by omega)
  rw [sub_parts] at hf
  simp [sem_minus, F_minus, semOf, qT, ok_nd ha hb h, ok_nd hb ha (by omega), ok_dd ha hb h]
  rw [hf]
  rfl
theorem times_spec (ha : Sz n a) (hb : Sz m b) (h : n + m + 1 ≤ 9000) : sem_times [qT a, qT b] = some (qT (a * b), []) := by
  have hf := frac_spec (a.num * b.num) (a.den * b.den) dd_ne (bd_dd ha hb) (by omega)
  rw [mul_parts] at hf
  simp [sem_times, F_times, semOf, qT, ok_nn ha hb h, ok_dd ha hb h]
  rw [hf]
  rfl
theorem over_spec (ha : Sz n a) (hb : Sz m b) (h0 : b ≠ 0) (h : n + m + 1 ≤ 9000) : sem_over [qT a, qT b] = some (qT (a / b), []) := by
  have h2 := a.den_nz
  have h3 : b.num ≠ 0 := fun h => h0 (Rat.num_eq_zero.mp h)
  have hbd : ((a.den : Int) * b.num).natAbs < 2 ^ (n + m) := by
    rw [Int.natAbs_mul]
    exact mul_pow (by simpa using ha.2) hb.1
  have hf := frac_spec (a.num * b.den) (a.den * b.num) (Int.mul_ne_zero (by omega) h3) hbd (by omega)
  rw [div_parts h0] at hf
  simp [sem_over, F_over, semOf, qT, ok_nd ha hb h, ok_dn ha hb h]
  rw [hf]
  rfl
theorem negative_spec : sem_negative [qT a] = some (qT (-a), []) := by
  simp [sem_negative, F_negative, semOf, qT, PySem.sizeLine, Rat.neg_num, Rat.neg_den]
theorem ladd_spec (ha : Sz n a) (hb : Sz m b) (h : n + m + 1 ≤ 9000) : sem__law_add [qT a, qT b] = some (qT (a + b), []) := by
  have hf := ratio_spec (a.num * b.den + b.num * a.den) (a.den * b.den) dd_ne (bd_dd ha hb) (by omega)
  rw [add_parts] at hf
  simp [sem__law_add, F__law_add, semOf, qT, ok_nd ha hb h, ok_nd hb ha (by omega), ok_dd ha hb h]
  rw [hf]
  rfl
theorem lsub_spec (ha : Sz n a) (hb : Sz m b) (h : n + m + 1 ≤ 9000) : sem__law_sub [qT a, qT b] = some (qT (a - b), []) := by
  have hf := ratio_spec (a.num * b.den - b.num * a.den) (a.den * b.den) dd_ne (bd_dd ha hb) (by omega)
  rw [sub_parts] at hf
  simp [sem__law_sub, F__law_sub, semOf, qT, ok_nd ha hb h, ok_nd hb ha (by omega), ok_dd ha hb h]
  rw [hf]
  rfl
theorem lmul_spec (ha : Sz n a) (hb : Sz m b) (h : n + m + 1 ≤ 9000) : sem__law_mul [qT a, qT b] = some (qT (a * b), []) := by
  have hf := ratio_spec (a.num * b.num) (a.den * b.den) dd_ne (bd_dd ha hb) (by omega)
  rw [mul_parts] at hf
  simp [sem__law_mul, F__law_mul, semOf, qT, ok_nn ha hb h, ok_dd ha hb h]
  rw [hf]
  rfl
end
theorem qT_int (i : Int) : qT (i : Rat) = .tup [.int i, .int 1] := by simp [qT]
theorem sz_int {i : Int} {n : Nat} (h : i.natAbs < 2 ^ n) (hn : n ≠ 0) : Sz n (i : Rat) := by
  unfold Sz
  simp only [Rat.num_intCast, Rat.den_intCast]
  exact ⟨h, Nat.one_lt_two_pow hn⟩
theorem qT_inj {a b : Rat} : (a.num = b.num ∧ (a.den : Int) = b.den) ↔ a = b := by
  constructor
  · intro ⟨h1, h2⟩
    exact Rat.ext h1 (by omega)
  · rintro rfl
    exact ⟨rfl, rfl⟩
theorem eqT_qT {a b : Rat} : eqT (qT a) (qT b) = decide (a = b) := by
  unfold qT
  rw [eqT_tup]
  simp only [eqAll_cons, eqAll_nil, eqT_int, Bool.and_true]
  rw [← Bool.decide_and]
  exact decide_eq_decide.mpr qT_inj
end LawP

namespace Tw
open L2
/-! ### loops that may hand back -/
def Ret (I : En → Prop) (o : Option Out) (r : Option T) : Prop := match r with
  | none => ∃ γ2, o = some (.nx γ2) ∧ I γ2
  | some t => ∃ γ2, o = some (.rt t γ2)
theorem forL_find {tg : T → En → Option En} {F : Fs} {I : En → Prop} {g : T → Option T} : ∀ {ts : List T} {γ : En}, (∀ t ∈ ts, ∀ γ, I γ → ∃ γ1, tg t γ = some γ1 ∧ Ret I (F γ1) (g t)) → I γ → Ret I (forL tg F ts γ) (ts.findSome? g)
  | [], γ, _, h0 => ⟨γ, rfl, h0⟩
  | t :: ts, γ, h, h0 => by
    obtain ⟨γ1, h1, h2⟩ := h t (List.mem_cons_self ..) γ h0
    rw [forL_cons h1, List.findSome?_cons]
    cases hg : g t with
    | none =>
      rw [hg] at h2
      obtain ⟨γ2, h3, h4⟩ := h2
      rw [h3]
      exact forL_find (fun t ht => h t (List.mem_cons_of_mem _ ht)) h4
    | some r =>
      rw [hg] at h2
      obtain ⟨γ2, h3⟩ := h2
      rw [h3]
      exact ⟨γ2, rfl⟩
theorem Ret.seq {I J : En → Prop} {F1 F2 : Fs} {γ : En} {r : Option T} (h : Ret J (F1 γ) r) (h2 : ∀ γ', J γ' → ∃ γ2, F2 γ' = some (.nx γ2) ∧ I γ2) : Ret I (sSeq F1 F2 γ) r := by
  cases r with
  | none =>
    obtain ⟨γ2, h3, h4⟩ := h
    rw [sSeq_nx h3]
    exact h2 _ h4
  | some t =>
    obtain ⟨γ2, h3⟩ := h
    rw [sSeq_rt h3]
    exact ⟨γ2, rfl⟩
def iL (ns : List Int) : T := .lst (ns.map T.int)
theorem cutT_map {α β : Type} (f : α → β) (l : List α) (lo hi : Option Int) : cutT (l.map f) lo hi = (cutT l lo hi).map f := by
  unfold cutT
  rw [List.length_map, List.map_take, List.map_drop]
@[simp] theorem r_lenI {ns : List Int} : gLen [iL ns] = some (.int (ns.length : Nat)) := by simp [iL]
theorem iL_at {ns : List Int} {k : Nat} (h : k < ns.length) : gIx (iL ns) (.int (k : Int)) = some (.int (ns.getD k 0)) := by
  show atI (ns.map T.int) (k : Int) = _
  refine atI_nat ?_
  simp [h]
theorem iL_ati {ns : List Int} {i : Int} (h0 : 0 ≤ i) (h : i < ns.length) : gIx (iL ns) (.int i) = some (.int (ns.getD i.toNat 0)) := by
  obtain ⟨k, rfl⟩ := Int.eq_ofNat_of_zero_le h0
  exact iL_at (by omega)
theorem iL_sl {ns : List Int} {lo hi : Option Int} : gSl (iL ns) lo hi = some (iL (cutT ns lo hi)) := by
  show some (T.lst (cutT (ns.map T.int) lo hi)) = _
  rw [cutT_map]
  rfl
theorem iL_sum {ns : List Int} : gSum [iL ns] = some (.int ns.sum) := by
  show (intsOf (ns.map T.int)).map (fun ns => T.int ns.sum) = _
  rw [intsOf_map]
  rfl
theorem iL_max {ns : List Int} (h : ns ≠ []) : gMaxL [iL ns] = some (.int (maxI ns)) := by
  show ((intsOf (ns.map T.int)).bind fun ns => if ns = [] then none else some (T.int (maxI ns))) = _
  rw [intsOf_map]
  simp [h]
theorem iL_min {ns : List Int} (h : ns ≠ []) : gMinL [iL ns] = some (.int (minI ns)) := by
  show ((intsOf (ns.map T.int)).bind fun ns => if ns = [] then none else some (T.int (minI ns))) = _
  rw [intsOf_map]
  simp [h]
theorem iL_lof {ns : List Int} : gListOf [iL ns] = some (iL ns) := rfl
theorem r_osome {f : Ex} {γ : En} : oSome f γ = match f γ with | some (.int i, γ') => some (some i, γ') | _ => none := rfl
theorem r_onone {γ : En} : oNone γ = some (none, γ) := rfl
theorem cut_nat {α : Type} {l : List α} {i k : Nat} (h : i + k ≤ l.length) : cutT l (some (i : Int)) (some ((i : Int) + k)) = (l.drop i).take k := by
  unfold cutT
  rw [show ((i : Int) + k) = ((i + k : Nat) : Int) by omega, HT.sIx_nat, HT.sIx_nat]
  rw [show min i l.length = i by omega, show min (i + k) l.length = i + k by omega, show i + k - i = k by omega]
/-- range's own bounds, for what is small -/
theorem ir1_of {a : Ax} {γ γ' : En} {j : Int} (ha : a γ = some ([.int j], γ')) (h : -1000000 ≤ j ∧ j < 1000000000) : iR1 a γ = some (rngT 0 j.toNat, γ') := by
  unfold iR1
  rw [ha]
  simp only
  rw [if_pos (by omega)]
theorem ir2_of {a : Ax} {γ γ' : En} {i j : Int} (ha : a γ = some ([.int i, .int j], γ')) (h : -1000000 ≤ i ∧ i < 1000000000 ∧ -1000000 ≤ j ∧ j < 1000000000) : iR2 a γ = some (rngT i (j - i).toNat, γ') := by
  unfold iR2
  rw [ha]
  simp only
  rw [if_pos (by omega)]
theorem rng_map {lo : Int} {n : Nat} {f : T → T} {g : Nat → Int} (h : ∀ k : Nat, k < n → f (.int (lo + k)) = .int (g k)) : (rngT lo n).map f = ((List.range n).map g).map T.int := by
  unfold rngT
  rw [List.map_map, List.map_map]
  refine List.map_congr_left fun k hk => ?_
  exact h k (List.mem_range.mp hk)
end Tw

namespace LawP
open Tw L2
/-! the second form of _law_same -/
noncomputable def F2__law_same (self : Sem') : Fs :=
  (sSeq (sIf (tOf (eBin gIs (eVar 1) (eLit .non))) (sRet (eBin gIs (eVar 0) (eLit .non))) sNx) (sSeq (sIf (tOf (eBin gIs (eVar 1) (eLit (.bl true)))) (sRet (eBin gIs (eVar 0) (eLit (.bl true)))) sNx) (sSeq (sIf (tOf (eBin gIs (eVar 1) (eLit (.bl false)))) (sRet (eBin gIs (eVar 0) (eLit (.bl false)))) sNx) (sSeq (sIf (tTru (eUn (gIsi "int") (eVar 1))) (sRet (eAnd (eUn (gIsi "int") (eVar 0)) (eAnd (eNot (eUn (gIsi "bool") (eVar 0))) (eBin gEq (eVar 0) (eVar 1))))) sNx) (sSeq (sIf (tTru (eUn (gIsi "str") (eVar 1))) (sRet (eAnd (eUn (gIsi "str") (eVar 0)) (eBin gEq (eVar 0) (eVar 1)))) sNx) (sSeq (sIf (tTru (eUn (gIsi "dict") (eVar 1))) (sSeq (sIf (tOrT (tNotT (tTru (eUn (gIsi "dict") (eVar 0)))) (tOf (eBin gNe (eCall gLen (aCons (eVar 0) aNil)) (eCall gLen (aCons (eVar 1) aNil))))) (sRet (eLit (.bl false))) sNx) (sSeq (sFor (iSeq (eVar 1)) (tgN 2) (sSeq (sIf (tOrT (tOf (eBin gNotIn (eVar 2) (eVar 0))) (tNotT (tTru (eOwn self [] (aCons (eBin gIx (eVar 0) (eVar 2)) (aCons (eBin gIx (eVar 1) (eVar 2)) aNil)))))) (sRet (eLit (.bl false))) sNx) (sKill 2 sNx))) (sRet (eLit (.bl true))))) sNx) (sSeq (sIf (tOrT (tOf (eBin gNe (eUn (gIsi "tuple") (eVar 0)) (eUn (gIsi "tuple") (eVar 1)))) (tOf (eBin gNe (eUn (gIsi "list") (eVar 0)) (eUn (gIsi "list") (eVar 1))))) (sRet (eLit (.bl false))) sNx) (sSeq (sIf (tOf (eBin gNe (eCall gLen (aCons (eVar 0) aNil)) (eCall gLen (aCons (eVar 1) aNil)))) (sRet (eLit (.bl false))) sNx) (sSeq (sFor (iR1 (aCons (eCall gLen (aCons (eVar 1) aNil)) aNil)) (tgN 3) (sSeq (sIf (tNotT (tTru (eOwn self [] (aCons (eBin gIx (eVar 0) (eVar 3)) (aCons (eBin gIx (eVar 1) (eVar 3)) aNil))))) (sRet (eLit (.bl false))) sNx) (sKill 3 sNx))) (sRet (eLit (.bl true))))))))))))
noncomputable def semR2__law_same : Nat → Sem'
  | 0 => fun _ => none
  | n + 1 => semOf 4 [] (F2__law_same (semR2__law_same n))
theorem same_str2 (n : Nat) (x : PySem.Str) (h : PySem.PyData.strOk x = true) : semR2__law_same (n + 1) [.str x, .str x] = some (.bl true, []) := by
  have h1 : gEq (.str x) (.str x) = some (.bl true) := by
    unfold gEq
    rw [show okT (.str x) = true from by simpa [okT, okN, okS] using h, eqT_refl 60 (.str x) (by simpa [okN, okS] using h)]
    rfl
  simp [semR2__law_same, F2__law_same, semOf, h1]
theorem r_neBB {a b : Bool} : gNe (.bl a) (.bl b) = some (.bl (a != b)) := by
  unfold gNe
  rw [show okT (.bl a) = true from rfl, show okT (.bl b) = true from rfl]
  cases a <;> cases b <;> simp [eqT, toD, PySem.PyData.eqv]
theorem same_lst2 {self : Sem'} {ts : List T} (hl : ts.length < 1000000000) (ih : ∀ t ∈ ts, self [t, t] = some (.bl true, [])) : semOf 4 [] (F2__law_same self) [.lst ts, .lst ts] = some (.bl true, []) := by
  have lp := same_loopL ih
  have hr : iR1 (aCons (eCall gLen (aCons (eVar 1) aNil)) aNil) [some (.lst ts), some (.lst ts), none, none] = some (rngT 0 ts.length, [some (.lst ts), some (.lst ts), none, none]) := ir1_len hl (by simp)
  have hf : sFor (iR1 (aCons (eCall gLen (aCons (eVar 1) aNil)) aNil)) (tgN 3) (sameF self) [some (.lst ts), some (.lst ts), none, none] = some (.nx [some (.lst ts), some (.lst ts), none, none]) := by
    rw [r_for, hr]
    exact lp
  refine semOf_rt (γ := [some (.lst ts), some (.lst ts), none, none]) (γ' := [some (.lst ts), some (.lst ts), none, none]) rfl ?_
  unfold F2__law_same
  rw [sIf_no (γ' := [some (.lst ts), some (.lst ts), none, none]) (by simp [r_neBB]), sIf_no (γ' := [some (.lst ts), some (.lst ts), none, none]) (by simp [r_neBB]), sIf_no (γ' := [some (.lst ts), some (.lst ts), none, none]) (by simp [r_neBB]), sIf_no (γ' := [some (.lst ts), some (.lst ts), none, none]) (by simp [r_neBB]), sIf_no (γ' := [some (.lst ts), some (.lst ts), none, none]) (by simp [r_neBB]), sIf_no (γ' := [some (.lst ts), some (.lst ts), none, none]) (by simp [r_neBB]), sIf_no (γ' := [some (.lst ts), some (.lst ts), none, none]) (by simp [r_neBB]), sIf_no (γ' := [some (.lst ts), some (.lst ts), none, none]) (by simp [r_neBB]), sSeq_nx hf]
  simp
theorem same_tup2 {self : Sem'} {ts : List T} (hl : ts.length < 1000000000) (ih : ∀ t ∈ ts, self [t, t] = some (.bl true, [])) : semOf 4 [] (F2__law_same self) [.tup ts, .tup ts] = some (.bl true, []) := by
  have lp := same_loopT ih
  have hr : iR1 (aCons (eCall gLen (aCons (eVar 1) aNil)) aNil) [some (.tup ts), some (.tup ts), none, none] = some (rngT 0 ts.length, [some (.tup ts), some (.tup ts), none, none]) := ir1_len hl (by simp)
  have hf : sFor (iR1 (aCons (eCall gLen (aCons (eVar 1) aNil)) aNil)) (tgN 3) (sameF self) [some (.tup ts), some (.tup ts), none, none] = some (.nx [some (.tup ts), some (.tup ts), none, none]) := by
    rw [r_for, hr]
    exact lp
  refine semOf_rt (γ := [some (.tup ts), some (.tup ts), none, none]) (γ' := [some (.tup ts), some (.tup ts), none, none]) rfl ?_
  unfold F2__law_same
  rw [sIf_no (γ' := [some (.tup ts), some (.tup ts), none, none]) (by simp [r_neBB]), sIf_no (γ' := [some (.tup ts), some (.tup ts), none, none]) (by simp [r_neBB]), sIf_no (γ' := [some (.tup ts), some (.tup ts), none, none]) (by simp [r_neBB]), sIf_no (γ' := [some (.tup ts), some (.tup ts), none, none]) (by simp [r_neBB]), sIf_no (γ' := [some (.tup ts), some (.tup ts), none, none]) (by simp [r_neBB]), sIf_no (γ' := [some (.tup ts), some (.tup ts), none, none]) (by simp [r_neBB]), sIf_no (γ' := [some (.tup ts), some (.tup ts), none, none]) (by simp [r_neBB]), sIf_no (γ' := [some (.tup ts), some (.tup ts), none, none]) (by simp [r_neBB]), sSeq_nx hf]
  simp
theorem same_self2 (n : Nat) : ∀ (t : T), okS n t = true → semR2__law_same (n + 1) [t, t] = some (.bl true, []) := by
  induction n with
  | zero =>
    intro t h
    cases t with
    | non => simp [semR2__law_same, F2__law_same, semOf]
    | bl b => cases b <;> simp [semR2__law_same, F2__law_same, semOf]
    | int i => simp [semR2__law_same, F2__law_same, semOf]
    | str x => exact same_str2 0 x (by simpa [okS] using h)
    | lst ts => simp [okS] at h
    | tup ts => simp [okS] at h
    | dct ks vs => simp [okS] at h
    | old ts => simp [okS] at h
  | succ n ih =>
    intro t h
    cases t with
    | non => simp [semR2__law_same, F2__law_same, semOf]
    | bl b => cases b <;> simp [semR2__law_same, F2__law_same, semOf]
    | int i => simp [semR2__law_same, F2__law_same, semOf]
    | str x => exact same_str2 _ x (by simpa [okS] using h)
    | dct ks vs => simp [okS] at h
    | old ts => simp [okS] at h
    | lst ts =>
      simp only [okS, Bool.and_eq_true, decide_eq_true_eq, List.all_eq_true] at h
      exact same_lst2 h.1 fun t ht => ih t (h.2 t ht)
    | tup ts =>
      simp only [okS, Bool.and_eq_true, decide_eq_true_eq, List.all_eq_true] at h
      exact same_tup2 h.1 fun t ht => ih t (h.2 t ht)
end LawP

namespace Tw
open L2 PySem
/-! ### running forward: what follows stands in places that simp does not enter -/
class KE where ap : T → En → Prop
class KA where ap : List T → En → Prop
class KB where ap : Bool → En → Prop
class KX where ap : Option Int → En → Prop
class KT where ap : T → Prop
class KL where ap : List T → Prop
class KI where ap : Int → Prop
class KO where ap : Bool → Prop
class KM where ap : T → T → Prop
class KC where ap : T → List T → Prop
class KG where ap : En → Prop
class KQ where ap : Out → Prop
class KP where ap : Prop
class KN where ap : Prop
def WE (f : Ex) (γ : En) [K : KE] : Prop := ∃ t γ', f γ = some (t, γ') ∧ K.ap t γ'
def WA (f : Ax) (γ : En) [K : KA] : Prop := ∃ t γ', f γ = some (t, γ') ∧ K.ap t γ'
def WI (f : Ix) (γ : En) [K : KA] : Prop := ∃ t γ', f γ = some (t, γ') ∧ K.ap t γ'
def WT (f : Tx) (γ : En) [K : KB] : Prop := ∃ t γ', f γ = some (t, γ') ∧ K.ap t γ'
def WX (f : Ox) (γ : En) [K : KX] : Prop := ∃ t γ', f γ = some (t, γ') ∧ K.ap t γ'
def WS (F : Fs) (γ : En) [Q : KQ] : Prop := ∃ o, F γ = some o ∧ Q.ap o
def WO (o : Option T) [K : KT] : Prop := ∃ t, o = some t ∧ K.ap t
def WL (o : Option (List T)) [K : KL] : Prop := ∃ t, o = some t ∧ K.ap t
def WB (o : Option Bool) [K : KO] : Prop := ∃ t, o = some t ∧ K.ap t
def WM (o : Option (T × T)) [K : KM] : Prop := ∃ t u, o = some (t, u) ∧ K.ap t u
def WC (o : Option (T × List T)) [K : KC] : Prop := ∃ t u, o = some (t, u) ∧ K.ap t u
def WG (tg : T → En → Option En) (t : T) (γ : En) [K : KG] : Prop := ∃ γ', tg t γ = some γ' ∧ K.ap γ'
def WGs (tg : TgT) (ts : List T) (γ : En) [K : KG] : Prop := ∃ γ', tg ts γ = some γ' ∧ K.ap γ'
def WF (tg : T → En → Option En) (F : Fs) (ts : List T) (γ : En) [Q : KQ] : Prop := ∃ o, forL tg F ts γ = some o ∧ Q.ap o
def WW (c : Tx) (F : Fs) (γ : En) [Q : KQ] : Prop := ∃ o, sWhile c F γ = some o ∧ Q.ap o
def WCo (own : List Nat) (tg : T → En → Option En) (test : Tx) (elt : Ex) (ts : List T) (γ : En) [K : KA] : Prop := ∃ us γ', compL own tg test elt ts γ [] = some (us, γ') ∧ K.ap us γ'
def Get (γ : En) (i : Nat) [K : KT] : Prop := ∃ t, γ[i]? = some (some t) ∧ K.ap t
def Put (γ : En) (i : Nat) (t : Option T) [K : KG] : Prop := K.ap (γ.set i t)
def PutA (γ : En) (io : List Nat) (us : List T) [K : KG] : Prop := K.ap (setAll γ io us)
def IsB (t : T) [K : KO] : Prop := ∃ b, t = .bl b ∧ K.ap b
def IsI (t : T) [K : KI] : Prop := ∃ b, t = .int b ∧ K.ap b
def Br (b : Bool) [A : KP] [B : KN] : Prop := (b = true → A.ap) ∧ (b = false → B.ap)
theorem Br.t {b : Bool} {A : KP} {B : KN} (h : @Br b A B) : b = true → A.ap := h.1
theorem Br.f {b : Bool} {A : KP} {B : KN} (h : @Br b A B) : b = false → B.ap := h.2
def Sd (p : Prop) [A : KP] : Prop := p ∧ A.ap
theorem Sd.s {p : Prop} {A : KP} (h : @Sd p A) : p := h.1
theorem Sd.k {p : Prop} {A : KP} (h : @Sd p A) : A.ap := h.2
def seqK (F : Fs) (Q : KQ) : KQ := ⟨fun o => match o with | .nx γ => @WS F γ Q | o => Q.ap o⟩
def lpK (I : En → Prop) (Q : KQ) : KQ := ⟨fun o => match o with | .nx γ => I γ | .ct γ => I γ | .bk γ => Q.ap (.nx γ) | .rt t γ => Q.ap (.rt t γ)⟩
def finK (pl : List Nat) (K : KC) : KQ := ⟨fun o => match o with | .nx γ => K.ap .non (outsOf pl γ) | .rt t γ => K.ap t (outsOf pl γ) | _ => False⟩
section
variable {γ : En} {f f1 f2 a b c : Ex} {g h : Ax} {t u : T} {F F1 F2 : Fs} {cc c1 c2 : Tx} {i j k n : Nat} {ts us : List T} {x : Option T} {pl : List Nat}
variable {Ke : KE} {Ka : KA} {Kb : KB} {Kx : KX} {Kt : KT} {Kl : KL} {Ki : KI} {Ko : KO} {Km : KM} {Kc : KC} {Kg : KG} {Q : KQ} {A : KP} {B : KN} {I : En → Prop} {bb : Bool} {ii jj : Int}
theorem seqK_nx : (seqK F Q).ap (.nx γ) = @WS F γ Q := rfl
theorem seqK_rt : (seqK F Q).ap (.rt t γ) = Q.ap (.rt t γ) := rfl
theorem seqK_bk : (seqK F Q).ap (.bk γ) = Q.ap (.bk γ) := rfl
theorem seqK_ct : (seqK F Q).ap (.ct γ) = Q.ap (.ct γ) := rfl
theorem lpK_nx : (lpK I Q).ap (.nx γ) = I γ := rfl
theorem lpK_ct : (lpK I Q).ap (.ct γ) = I γ := rfl
theorem lpK_bk : (lpK I Q).ap (.bk γ) = Q.ap (.nx γ) := rfl
theorem lpK_rt : (lpK I Q).ap (.rt t γ) = Q.ap (.rt t γ) := rfl
theorem finK_nx : (finK pl Kc).ap (.nx γ) = Kc.ap .non (outsOf pl γ) := rfl
theorem finK_rt : (finK pl Kc).ap (.rt t γ) = Kc.ap t (outsOf pl γ) := rfl
theorem br_t : @Br true A B = A.ap := propext ⟨fun h => h.t rfl, fun h => ⟨fun _ => h, fun h => (nomatch h)⟩⟩
theorem br_f : @Br false A B = B.ap := propext ⟨fun h => h.f rfl, fun h => ⟨fun h => (nomatch h), fun _ => h⟩⟩
theorem br_n {A : KP} {B : KN} : @Br (!bb) A B = @Br bb ⟨B.ap⟩ ⟨A.ap⟩ := by cases bb <;> simp [br_t, br_f]
theorem sd_t : @Sd True A = A.ap := propext ⟨fun h => h.k, fun h => ⟨trivial, h⟩⟩
theorem wo_s : @WO (some t) Kt = Kt.ap t := by simp [WO]
theorem wl_s : @WL (some ts) Kl = Kl.ap ts := by simp [WL]
theorem wb_s : @WB (some bb) Ko = Ko.ap bb := by simp [WB]
theorem wm_s : @WM (some (t, u)) Km = Km.ap t u := by simp [WM, and_assoc]
theorem wc_s : @WC (some (t, us)) Kc = Kc.ap t us := by simp [WC, and_assoc]
theorem wo_if {p : Prop} {_ : Decidable p} {o : Option T} : @WO (if p then o else none) Kt = @Sd p ⟨@WO o Kt⟩ := by
  by_cases h : p
  · simp only [h, if_true, sd_t]
  · rw [if_neg h]; exact propext ⟨fun ⟨_, h, _⟩ => (nomatch h), fun h' => absurd h'.s h⟩
theorem wl_if {p : Prop} {_ : Decidable p} {o : Option (List T)} : @WL (if p then o else none) Kl = @Sd p ⟨@WL o Kl⟩ := by
  by_cases h : p
  · simp only [h, if_true, sd_t]
  · rw [if_neg h]; exact propext ⟨fun ⟨_, h, _⟩ => (nomatch h), fun h' => absurd h'.s h⟩
theorem wm_if {p : Prop} {_ : Decidable p} {o : Option (T × T)} : @WM (if p then o else none) Km = @Sd p ⟨@WM o Km⟩ := by
  by_cases h : p
  · simp only [h, if_true, sd_t]
  · rw [if_neg h]; exact propext ⟨fun ⟨_, _, h, _⟩ => (nomatch h), fun h' => absurd h'.s h⟩
theorem isB_b : @IsB (.bl bb) Ko = Ko.ap bb := by simp [IsB]
theorem isI_i : @IsI (.int ii) Ki = Ki.ap ii := by simp [IsI]
theorem get_0 : @Get (some t :: γ) 0 Kt = Kt.ap t := by simp [Get]
theorem get_s : @Get (x :: γ) (i + 1) Kt = @Get γ i Kt := by simp [Get]
theorem put_0 {y : Option T} : @Put (x :: γ) 0 y Kg = Kg.ap (y :: γ) := rfl
theorem put_s {y : Option T} : @Put (x :: γ) (i + 1) y Kg = @Put γ i y ⟨fun γ' => Kg.ap (x :: γ')⟩ := rfl
theorem putA_0 : @PutA γ [] us Kg = Kg.ap γ := rfl
theorem putA_s {io : List Nat} : @PutA γ (i :: io) (u :: us) Kg = @Put γ i (some u) ⟨fun γ' => @PutA γ' io us Kg⟩ := rfl
theorem bind_ex {α β : Type} {o : Option α} {f : α → Option β} {P : β → Prop} : (∃ y, o.bind f = some y ∧ P y) ↔ ∃ x, o = some x ∧ ∃ y, f x = some y ∧ P y := by
  constructor
  · rintro ⟨y, h, q⟩
    obtain ⟨x, h1, h2⟩ := Option.bind_eq_some_iff.mp h
    exact ⟨x, h1, y, h2, q⟩
  · rintro ⟨x, h1, y, h2, q⟩
    exact ⟨y, by rw [h1]; exact h2, q⟩
theorem we_lit : @WE (eLit t) γ Ke = Ke.ap t γ := by simp [WE, and_assoc]
theorem we_var : @WE (eVar i) γ Ke = @Get γ i ⟨fun t => Ke.ap t γ⟩ := by
  unfold WE Get eVar
  refine propext ⟨?_, ?_⟩
  · rintro ⟨t, γ', h, q⟩
    split at h
    · rename_i t0 h0; cases h; exact ⟨_, h0, q⟩
    · cases h
  · rintro ⟨t, h, q⟩
    exact ⟨t, γ, by rw [h], q⟩
theorem we_bin {g : T → T → Option T} : @WE (eBin g a b) γ Ke = @WE a γ ⟨fun x γ1 => @WE b γ1 ⟨fun y γ2 => @WO (g x y) ⟨fun z => Ke.ap z γ2⟩⟩⟩ := by
  unfold WE WO eBin
  refine propext ⟨?_, ?_⟩
  · rintro ⟨t, γ', h, q⟩
    obtain ⟨⟨x, γ1⟩, h1, h⟩ := Option.bind_eq_some_iff.mp h
    obtain ⟨⟨y, γ2⟩, h2, h⟩ := Option.bind_eq_some_iff.mp h
    obtain ⟨z, h3, h⟩ := Option.map_eq_some_iff.mp h
    cases h
    exact ⟨x, γ1, h1, y, _, h2, _, h3, q⟩
  · rintro ⟨x, γ1, h1, y, γ2, h2, z, h3, q⟩
    exact ⟨z, γ2, by rw [h1, Option.bind_some, h2, Option.bind_some]; dsimp only; rw [h3]; rfl, q⟩
theorem we_un {g : T → Option T} : @WE (eUn g a) γ Ke = @WE a γ ⟨fun x γ1 => @WO (g x) ⟨fun z => Ke.ap z γ1⟩⟩ := by
  unfold WE WO eUn
  refine propext ⟨?_, ?_⟩
  · rintro ⟨t, γ', h, q⟩
    obtain ⟨⟨x, γ1⟩, h1, h⟩ := Option.bind_eq_some_iff.mp h
    obtain ⟨z, h3, h⟩ := Option.map_eq_some_iff.mp h
    cases h
    exact ⟨x, γ1, h1, _, h3, q⟩
  · rintro ⟨x, γ1, h1, z, h3, q⟩
    exact ⟨z, γ1, by rw [h1, Option.bind_some]; dsimp only; rw [h3]; rfl, q⟩
theorem we_call {g : List T → Option T} {a : Ax} : @WE (eCall g a) γ Ke = @WA a γ ⟨fun x γ1 => @WO (g x) ⟨fun z => Ke.ap z γ1⟩⟩ := by
  unfold WE WA WO eCall
  refine propext ⟨?_, ?_⟩
  · rintro ⟨t, γ', h, q⟩
    obtain ⟨⟨x, γ1⟩, h1, h⟩ := Option.bind_eq_some_iff.mp h
    obtain ⟨z, h3, h⟩ := Option.map_eq_some_iff.mp h
    cases h
    exact ⟨x, γ1, h1, _, h3, q⟩
  · rintro ⟨x, γ1, h1, z, h3, q⟩
    exact ⟨z, γ1, by rw [h1, Option.bind_some]; dsimp only; rw [h3]; rfl, q⟩
theorem we_chain {g g' : T → T → Option T} : @WE (eChain g g' a b c) γ Ke = @WE a γ ⟨fun x γ1 => @WE b γ1 ⟨fun y γ2 => @WO (g x y) ⟨fun z => @IsB z ⟨fun q => @Br q ⟨@WE c γ2 ⟨fun w γ3 => @WO (g' y w) ⟨fun z => Ke.ap z γ3⟩⟩⟩ ⟨Ke.ap (.bl false) γ2⟩⟩⟩⟩⟩ := by
  unfold WE WO eChain IsB
  refine propext ⟨?_, ?_⟩
  · rintro ⟨t, γ', h, q⟩
    obtain ⟨⟨x, γ1⟩, h1, h⟩ := Option.bind_eq_some_iff.mp h
    obtain ⟨⟨y, γ2⟩, h2, h⟩ := Option.bind_eq_some_iff.mp h
    dsimp only at h
    refine ⟨x, γ1, h1, y, γ2, h2, ?_⟩
    split at h
    · rename_i h3
      obtain ⟨⟨w, γ3⟩, h4, h⟩ := Option.bind_eq_some_iff.mp h
      obtain ⟨z, h5, h⟩ := Option.map_eq_some_iff.mp h
      cases h
      exact ⟨_, h3, true, rfl, ⟨fun _ => ⟨w, _, h4, _, h5, q⟩, fun h => nomatch h⟩⟩
    · rename_i h3
      cases h
      exact ⟨_, h3, false, rfl, ⟨fun h => (nomatch h), fun _ => q⟩⟩
    · cases h
  · rintro ⟨x, γ1, h1, y, γ2, h2, z, h3, q, rfl, hb⟩
    cases q with
    | false => exact ⟨_, γ2, by rw [h1, Option.bind_some, h2, Option.bind_some]; dsimp only; rw [h3], hb.f rfl⟩
    | true =>
      obtain ⟨w, γ3, h4, z, h5, q⟩ := hb.t rfl
      exact ⟨z, γ3, by rw [h1, Option.bind_some, h2, Option.bind_some]; dsimp only; rw [h3]; dsimp only; rw [h4, Option.bind_some]; dsimp only; rw [h5]; rfl, q⟩
theorem wt_of : @WT (tOf f) γ Kb = @WE f γ ⟨fun t γ' => @IsB t ⟨fun b => Kb.ap b γ'⟩⟩ := by
  unfold WT WE IsB tOf
  refine propext ⟨?_, ?_⟩
  · rintro ⟨t, γ', h, q⟩
    split at h
    · rename_i h1; cases h; exact ⟨_, _, h1, _, rfl, q⟩
    · cases h
  · rintro ⟨t, γ', h, b, rfl, q⟩
    exact ⟨b, γ', by rw [h], q⟩
theorem we_eof : @WE (eOf cc) γ Ke = @WT cc γ ⟨fun b γ' => Ke.ap (.bl b) γ'⟩ := by
  unfold WT WE eOf
  refine propext ⟨?_, ?_⟩
  · rintro ⟨t, γ', h, q⟩
    obtain ⟨⟨x, γ1⟩, h1, h⟩ := Option.map_eq_some_iff.mp h
    cases h
    exact ⟨_, _, h1, q⟩
  · rintro ⟨t, γ', h, q⟩
    exact ⟨_, γ', by rw [h]; rfl, q⟩
theorem we_not : @WE (eNot f) γ Ke = @WE f γ ⟨fun t γ' => @IsB t ⟨fun b => Ke.ap (.bl (!b)) γ'⟩⟩ := by
  unfold WE IsB eNot
  refine propext ⟨?_, ?_⟩
  · rintro ⟨t, γ', h, q⟩
    split at h
    · rename_i h1; cases h; exact ⟨_, _, h1, _, rfl, q⟩
    · cases h
  · rintro ⟨t, γ', h, b, rfl, q⟩
    exact ⟨_, γ', by rw [h], q⟩
theorem we_and : @WE (eAnd f1 f2) γ Ke = @WE f1 γ ⟨fun t γ' => @IsB t ⟨fun b => @Br b ⟨@WE f2 γ' Ke⟩ ⟨Ke.ap (.bl false) γ'⟩⟩⟩ := by
  unfold WE IsB eAnd
  refine propext ⟨?_, ?_⟩
  · rintro ⟨t, γ', h, q⟩
    split at h
    · rename_i h1; exact ⟨_, _, h1, _, rfl, fun _ => ⟨t, γ', h, q⟩, fun h => nomatch h⟩
    · rename_i h1; cases h; exact ⟨_, _, h1, _, rfl, fun h => (nomatch h), fun _ => q⟩
    · cases h
  · rintro ⟨t, γ', h, b, rfl, q⟩
    cases b with
    | false => exact ⟨_, γ', by rw [h], q.f rfl⟩
    | true =>
      obtain ⟨t, γ2, h2, q⟩ := q.t rfl
      exact ⟨t, γ2, by rw [h]; exact h2, q⟩
theorem we_or : @WE (eOr f1 f2) γ Ke = @WE f1 γ ⟨fun t γ' => @IsB t ⟨fun b => @Br b ⟨Ke.ap (.bl true) γ'⟩ ⟨@WE f2 γ' Ke⟩⟩⟩ := by
  unfold WE IsB eOr
  refine propext ⟨?_, ?_⟩
  · rintro ⟨t, γ', h, q⟩
    split at h
    · rename_i h1; exact ⟨_, _, h1, _, rfl, fun h => (nomatch h), fun _ => ⟨t, γ', h, q⟩⟩
    · rename_i h1; cases h; exact ⟨_, _, h1, _, rfl, fun _ => q, fun h => (nomatch h)⟩
    · cases h
  · rintro ⟨t, γ', h, b, rfl, q⟩
    cases b with
    | true => exact ⟨_, γ', by rw [h], q.t rfl⟩
    | false =>
      obtain ⟨t, γ2, h2, q⟩ := q.f rfl
      exact ⟨t, γ2, by rw [h]; exact h2, q⟩
theorem wt_yes : @WT tYesT γ Kb = Kb.ap true γ := by simp [WT, and_assoc]
theorem wt_not : @WT (tNotT cc) γ Kb = @WT cc γ ⟨fun b γ' => Kb.ap (!b) γ'⟩ := by
  unfold WT tNotT
  refine propext ⟨?_, ?_⟩
  · rintro ⟨t, γ', h, q⟩
    obtain ⟨⟨x, γ1⟩, h1, h⟩ := Option.map_eq_some_iff.mp h
    cases h
    exact ⟨_, _, h1, q⟩
  · rintro ⟨t, γ', h, q⟩
    exact ⟨_, γ', by rw [h]; rfl, q⟩
theorem wt_and : @WT (tAndT c1 c2) γ Kb = @WT c1 γ ⟨fun b γ' => @Br b ⟨@WT c2 γ' Kb⟩ ⟨Kb.ap false γ'⟩⟩ := by
  unfold WT tAndT
  refine propext ⟨?_, ?_⟩
  · rintro ⟨t, γ', h, q⟩
    obtain ⟨⟨x, γ1⟩, h1, h⟩ := Option.bind_eq_some_iff.mp h
    refine ⟨x, γ1, h1, fun e => ?_, fun e => ?_⟩ <;> subst e
    · exact ⟨t, γ', h, q⟩
    · cases h; exact q
  · rintro ⟨b, γ', h, q⟩
    cases b with
    | false => exact ⟨_, γ', by rw [h]; rfl, q.f rfl⟩
    | true =>
      obtain ⟨t, γ2, h2, q⟩ := q.t rfl
      exact ⟨t, γ2, by rw [h]; exact h2, q⟩
theorem wt_or : @WT (tOrT c1 c2) γ Kb = @WT c1 γ ⟨fun b γ' => @Br b ⟨Kb.ap true γ'⟩ ⟨@WT c2 γ' Kb⟩⟩ := by
  unfold WT tOrT
  refine propext ⟨?_, ?_⟩
  · rintro ⟨t, γ', h, q⟩
    obtain ⟨⟨x, γ1⟩, h1, h⟩ := Option.bind_eq_some_iff.mp h
    refine ⟨x, γ1, h1, fun e => ?_, fun e => ?_⟩ <;> subst e
    · cases h; exact q
    · exact ⟨t, γ', h, q⟩
  · rintro ⟨b, γ', h, q⟩
    cases b with
    | true => exact ⟨_, γ', by rw [h]; rfl, q.t rfl⟩
    | false =>
      obtain ⟨t, γ2, h2, q⟩ := q.f rfl
      exact ⟨t, γ2, by rw [h]; exact h2, q⟩
theorem wt_tru : @WT (tTru f) γ Kb = @WE f γ ⟨fun t γ' => @WB (truT t) ⟨fun b => Kb.ap b γ'⟩⟩ := by
  unfold WT WE WB tTru
  refine propext ⟨?_, ?_⟩
  · rintro ⟨t, γ', h, q⟩
    obtain ⟨⟨x, γ1⟩, h1, h⟩ := Option.bind_eq_some_iff.mp h
    obtain ⟨z, h3, h⟩ := Option.map_eq_some_iff.mp h
    cases h
    exact ⟨x, γ1, h1, _, h3, q⟩
  · rintro ⟨x, γ1, h1, z, h3, q⟩
    exact ⟨z, γ1, by rw [h1, Option.bind_some]; dsimp only; rw [h3]; rfl, q⟩
theorem we_if : @WE (eIf cc a b) γ Ke = @WT cc γ ⟨fun x γ' => @Br x ⟨@WE a γ' Ke⟩ ⟨@WE b γ' Ke⟩⟩ := by
  unfold WT WE eIf
  refine propext ⟨?_, ?_⟩
  · rintro ⟨t, γ', h, q⟩
    obtain ⟨⟨x, γ1⟩, h1, h⟩ := Option.bind_eq_some_iff.mp h
    refine ⟨x, γ1, h1, fun e => ?_, fun e => ?_⟩ <;> subst e <;> exact ⟨t, γ', h, q⟩
  · rintro ⟨b, γ', h, q⟩
    cases b with
    | false =>
      obtain ⟨t, γ2, h2, q⟩ := q.f rfl
      exact ⟨t, γ2, by rw [h]; exact h2, q⟩
    | true =>
      obtain ⟨t, γ2, h2, q⟩ := q.t rfl
      exact ⟨t, γ2, by rw [h]; exact h2, q⟩
theorem wa_nil : @WA aNil γ Ka = Ka.ap [] γ := by simp [WA, and_assoc]
theorem wa_cons : @WA (aCons f g) γ Ka = @WE f γ ⟨fun t γ1 => @WA g γ1 ⟨fun ts γ2 => Ka.ap (t :: ts) γ2⟩⟩ := by
  unfold WA WE aCons
  refine propext ⟨?_, ?_⟩
  · rintro ⟨t, γ', h, q⟩
    obtain ⟨⟨x, γ1⟩, h1, h⟩ := Option.bind_eq_some_iff.mp h
    obtain ⟨⟨z, γ2⟩, h3, h⟩ := Option.map_eq_some_iff.mp h
    cases h
    exact ⟨x, γ1, h1, _, _, h3, q⟩
  · rintro ⟨x, γ1, h1, z, γ2, h3, q⟩
    exact ⟨x :: z, γ2, by rw [h1, Option.bind_some]; dsimp only; rw [h3]; rfl, q⟩
theorem eVar_iff {γ' : En} : eVar i γ = some (t, γ') ↔ γ[i]? = some (some t) ∧ γ' = γ := by
  constructor
  · exact eVar_some
  · rintro ⟨h, rfl⟩
    unfold eVar
    rw [h]
theorem wa_io : @WA (aIo i g) γ Ka = @Get γ i ⟨fun _ => @WA g γ ⟨fun ts γ2 => @Get γ2 i ⟨fun t => Ka.ap (t :: ts) γ2⟩⟩⟩ := by
  unfold WA Get aIo
  refine propext ⟨?_, ?_⟩
  · rintro ⟨t, γ', h, q⟩
    obtain ⟨⟨x, γ1⟩, h1, h⟩ := Option.bind_eq_some_iff.mp h
    obtain ⟨⟨z, γ2⟩, h3, h⟩ := Option.bind_eq_some_iff.mp h
    obtain ⟨⟨y, γ4⟩, h4, h⟩ := Option.map_eq_some_iff.mp h
    cases h
    obtain ⟨h1, rfl⟩ := eVar_iff.mp h1
    obtain ⟨h4, h5⟩ := eVar_iff.mp h4
    dsimp only at h4 h5 q
    subst h5
    exact ⟨x, h1, z, _, h3, y, h4, q⟩
  · rintro ⟨x, h1, z, γ2, h3, y, h4, q⟩
    refine ⟨y :: z, γ2, ?_, q⟩
    rw [eVar_iff.mpr ⟨h1, rfl⟩, Option.bind_some, h3, Option.bind_some, eVar_iff.mpr ⟨h4, rfl⟩]
    rfl
theorem we_tup {a : Ax} : @WE (eTup a) γ Ke = @WA a γ ⟨fun ts γ' => @Sd (ts.length ≤ sizeLine) ⟨Ke.ap (.tup ts) γ'⟩⟩ := by
  unfold WA WE eTup
  refine propext ⟨?_, ?_⟩
  · rintro ⟨t, γ', h, q⟩
    obtain ⟨⟨x, γ1⟩, h1, h⟩ := Option.bind_eq_some_iff.mp h
    split at h <;> cases h
    rename_i hl
    exact ⟨x, _, h1, hl, q⟩
  · rintro ⟨x, γ1, h1, hl, q⟩
    exact ⟨_, γ1, by rw [h1, Option.bind_some]; exact if_pos hl, q⟩
theorem we_lst {a : Ax} : @WE (eLst a) γ Ke = @WA a γ ⟨fun ts γ' => @Sd (ts.length ≤ sizeLine) ⟨Ke.ap (.lst ts) γ'⟩⟩ := by
  unfold WA WE eLst
  refine propext ⟨?_, ?_⟩
  · rintro ⟨t, γ', h, q⟩
    obtain ⟨⟨x, γ1⟩, h1, h⟩ := Option.bind_eq_some_iff.mp h
    split at h <;> cases h
    rename_i hl
    exact ⟨x, _, h1, hl, q⟩
  · rintro ⟨x, γ1, h1, hl, q⟩
    exact ⟨_, γ1, by rw [h1, Option.bind_some]; exact if_pos hl, q⟩
theorem we_own {S : Sem'} {io : List Nat} {a : Ax} : @WE (eOwn S io a) γ Ke = @WA a γ ⟨fun ts γ' => @WC (S ts) ⟨fun t us => @PutA γ' io us ⟨fun γ2 => Ke.ap t γ2⟩⟩⟩ := by
  unfold WA WE WC eOwn PutA
  refine propext ⟨?_, ?_⟩
  · rintro ⟨t, γ', h, q⟩
    obtain ⟨⟨x, γ1⟩, h1, h⟩ := Option.bind_eq_some_iff.mp h
    obtain ⟨⟨z, γ2⟩, h3, h⟩ := Option.map_eq_some_iff.mp h
    cases h
    exact ⟨x, γ1, h1, _, _, h3, q⟩
  · rintro ⟨x, γ1, h1, z, γ2, h3, q⟩
    exact ⟨z, _, by rw [h1, Option.bind_some]; dsimp only; rw [h3]; rfl, q⟩
theorem wx_none : @WX oNone γ Kx = Kx.ap none γ := by simp [WX, oNone, and_assoc]
theorem wx_some : @WX (oSome f) γ Kx = @WE f γ ⟨fun t γ' => @IsI t ⟨fun i => Kx.ap (some i) γ'⟩⟩ := by
  unfold WX WE IsI oSome
  refine propext ⟨?_, ?_⟩
  · rintro ⟨t, γ', h, q⟩
    split at h
    · rename_i h1; cases h; exact ⟨_, _, h1, _, rfl, q⟩
    · cases h
  · rintro ⟨t, γ', h, b, rfl, q⟩
    exact ⟨_, γ', by rw [h], q⟩
theorem we_sl {g : T → Option Int → Option Int → Option T} {lo hi : Ox} : @WE (eSl g f lo hi) γ Ke = @WE f γ ⟨fun x γ1 => @WX lo γ1 ⟨fun y γ2 => @WX hi γ2 ⟨fun z γ3 => @WO (g x y z) ⟨fun r => Ke.ap r γ3⟩⟩⟩⟩ := by
  unfold WE WX WO eSl
  refine propext ⟨?_, ?_⟩
  · rintro ⟨t, γ', h, q⟩
    obtain ⟨⟨x, γ1⟩, h1, h⟩ := Option.bind_eq_some_iff.mp h
    obtain ⟨⟨y, γ2⟩, h2, h⟩ := Option.bind_eq_some_iff.mp h
    obtain ⟨⟨z, γ3⟩, h3, h⟩ := Option.bind_eq_some_iff.mp h
    obtain ⟨r, h4, h⟩ := Option.map_eq_some_iff.mp h
    cases h
    exact ⟨x, γ1, h1, y, _, h2, z, _, h3, _, h4, q⟩
  · rintro ⟨x, γ1, h1, y, γ2, h2, z, γ3, h3, r, h4, q⟩
    exact ⟨r, γ3, by rw [h1, Option.bind_some]; dsimp only; rw [h2, Option.bind_some]; dsimp only; rw [h3, Option.bind_some]; dsimp only; rw [h4]; rfl, q⟩
theorem we_mut {kd : T → Bool} {g : T → List T → Option (T × T)} {a : Ax} : @WE (eMut i kd g a) γ Ke = @Get γ i ⟨fun t0 => @Sd (kd t0 = true) ⟨@WA a γ ⟨fun ts γ' => @Get γ' i ⟨fun t => @WM (g t ts) ⟨fun r t' => @Put γ' i (some t') ⟨fun γ2 => Ke.ap r γ2⟩⟩⟩⟩⟩⟩ := by
  unfold WE Get WA WM Put eMut
  refine propext ⟨?_, ?_⟩
  · rintro ⟨t, γ', h, q⟩
    split at h
    · rename_i t0 h0
      split at h
      · rename_i hk
        obtain ⟨⟨x, γ1⟩, h1, h⟩ := Option.bind_eq_some_iff.mp h
        dsimp only at h
        split at h
        · rename_i t1 h2
          obtain ⟨⟨r, t'⟩, h3, h⟩ := Option.map_eq_some_iff.mp h
          cases h
          exact ⟨t0, h0, hk, x, γ1, h1, t1, h2, _, _, h3, q⟩
        · cases h
      · cases h
    · cases h
  · rintro ⟨t0, h0, hk, x, γ1, h1, t1, h2, r, t', h3, q⟩
    refine ⟨r, _, ?_, q⟩
    rw [h0]
    dsimp only
    rw [if_pos hk, h1, Option.bind_some]
    dsimp only
    rw [h2]
    dsimp only
    rw [h3]
    rfl
/-! statements -/
theorem ws_nx : @WS sNx γ Q = Q.ap (.nx γ) := by simp [WS, and_assoc]
theorem ws_seq : @WS (sSeq F1 F2) γ Q = @WS F1 γ (seqK F2 Q) := by
  have e : sSeq F1 F2 γ = match F1 γ with | some (.nx γ') => F2 γ' | o => o := rfl
  unfold WS
  rw [e]
  refine propext ⟨?_, ?_⟩
  · rintro ⟨o, h, q⟩
    split at h
    · rename_i γ' h1
      exact ⟨_, h1, o, h, q⟩
    · rename_i o' h1
      refine ⟨o, h, ?_⟩
      cases o with
      | nx γ' => exact absurd h (h1 γ')
      | rt t γ' => exact q
      | bk γ' => exact q
      | ct γ' => exact q
  · rintro ⟨o, h, q⟩
    cases o with
    | nx γ' =>
      obtain ⟨o, h2, q⟩ := q
      exact ⟨o, by rw [h]; exact h2, q⟩
    | rt t γ' => exact ⟨_, by rw [h], q⟩
    | bk γ' => exact ⟨_, by rw [h], q⟩
    | ct γ' => exact ⟨_, by rw [h], q⟩
theorem ws_kill : @WS (sKill i F) γ Q = @Put γ i none ⟨fun γ' => @WS F γ' Q⟩ := rfl
theorem ws_asg : @WS (sAsg i f) γ Q = @WE f γ ⟨fun t γ' => @Put γ' i (some t) ⟨fun γ2 => Q.ap (.nx γ2)⟩⟩ := by
  unfold WS WE Put sAsg
  refine propext ⟨?_, ?_⟩
  · rintro ⟨o, h, q⟩
    obtain ⟨⟨x, γ1⟩, h1, h⟩ := Option.map_eq_some_iff.mp h
    cases h
    exact ⟨x, γ1, h1, q⟩
  · rintro ⟨x, γ1, h1, q⟩
    exact ⟨_, by rw [h1]; rfl, q⟩
theorem ws_drop : @WS (sDrop f) γ Q = @WE f γ ⟨fun t γ' => Q.ap (.nx γ')⟩ := by
  unfold WS WE sDrop
  refine propext ⟨?_, ?_⟩
  · rintro ⟨o, h, q⟩
    obtain ⟨⟨x, γ1⟩, h1, h⟩ := Option.map_eq_some_iff.mp h
    cases h
    exact ⟨x, γ1, h1, q⟩
  · rintro ⟨x, γ1, h1, q⟩
    exact ⟨_, by rw [h1]; rfl, q⟩
theorem ws_ret : @WS (sRet f) γ Q = @WE f γ ⟨fun t γ' => Q.ap (.rt t γ')⟩ := by
  unfold WS WE sRet
  refine propext ⟨?_, ?_⟩
  · rintro ⟨o, h, q⟩
    obtain ⟨⟨x, γ1⟩, h1, h⟩ := Option.map_eq_some_iff.mp h
    cases h
    exact ⟨x, γ1, h1, q⟩
  · rintro ⟨x, γ1, h1, q⟩
    exact ⟨_, by rw [h1]; rfl, q⟩
theorem ws_retN : @WS sRetN γ Q = Q.ap (.rt .non γ) := by simp [WS, and_assoc]
theorem ws_brk : @WS sBrk γ Q = Q.ap (.bk γ) := by simp [WS, and_assoc]
theorem ws_cnt : @WS sCnt γ Q = Q.ap (.ct γ) := by simp [WS, and_assoc]
theorem ws_if : @WS (sIf cc F1 F2) γ Q = @WT cc γ ⟨fun x γ' => @Br x ⟨@WS F1 γ' Q⟩ ⟨@WS F2 γ' Q⟩⟩ := by
  unfold WT WS sIf
  refine propext ⟨?_, ?_⟩
  · rintro ⟨t, h, q⟩
    obtain ⟨⟨x, γ1⟩, h1, h⟩ := Option.bind_eq_some_iff.mp h
    refine ⟨x, γ1, h1, fun e => ?_, fun e => ?_⟩ <;> subst e <;> exact ⟨t, h, q⟩
  · rintro ⟨b, γ', h, q⟩
    cases b with
    | false =>
      obtain ⟨t, h2, q⟩ := q.f rfl
      exact ⟨t, by rw [h]; exact h2, q⟩
    | true =>
      obtain ⟨t, h2, q⟩ := q.t rfl
      exact ⟨t, by rw [h]; exact h2, q⟩
theorem ws_asgT {tg : T → En → Option En} : @WS (sAsgT tg f) γ Q = @WE f γ ⟨fun t γ' => @WG tg t γ' ⟨fun γ2 => Q.ap (.nx γ2)⟩⟩ := by
  unfold WS WE WG sAsgT
  refine propext ⟨?_, ?_⟩
  · rintro ⟨o, h, q⟩
    obtain ⟨⟨x, γ1⟩, h1, h⟩ := Option.bind_eq_some_iff.mp h
    obtain ⟨γ2, h2, h⟩ := Option.map_eq_some_iff.mp h
    cases h
    exact ⟨x, γ1, h1, γ2, h2, q⟩
  · rintro ⟨x, γ1, h1, γ2, h2, q⟩
    exact ⟨_, by rw [h1, Option.bind_some]; dsimp only; rw [h2]; rfl, q⟩
def Two (ts : List T) [K : KM] : Prop := ∃ t u, ts = [t, u] ∧ K.ap t u
def Three (ts : List T) [K : KL] : Prop := ∃ t u w, ts = [t, u, w] ∧ K.ap [t, u, w]
theorem two_2 : @Two [t, u] Km = Km.ap t u := by simp [Two, and_assoc]
theorem ws_par {a : Ax} : @WS (sPar i j a) γ Q = @WA a γ ⟨fun ts γ' => @Two ts ⟨fun t u => @Put γ' i (some t) ⟨fun γ1 => @Put γ1 j (some u) ⟨fun γ2 => Q.ap (.nx γ2)⟩⟩⟩⟩ := by
  unfold WS WA Put Two sPar
  refine propext ⟨?_, ?_⟩
  · rintro ⟨o, h, q⟩
    split at h
    · rename_i h1; cases h; exact ⟨_, _, h1, _, _, rfl, q⟩
    · cases h
  · rintro ⟨ts, γ', h, t, u, rfl, q⟩
    exact ⟨_, by rw [h], q⟩
def Put3 (γ : En) (i j k : Nat) (ts : List T) [K : KG] : Prop := ∃ t u w, ts = [t, u, w] ∧ K.ap (((γ.set i (some t)).set j (some u)).set k (some w))
theorem put3_3 {w : T} : @Put3 γ i j k [t, u, w] Kg = @Put γ i (some t) ⟨fun γ1 => @Put γ1 j (some u) ⟨fun γ2 => @Put γ2 k (some w) Kg⟩⟩ := by simp [Put3, Put, and_assoc]
theorem ws_par3 {a : Ax} : @WS (sPar3 i j k a) γ Q = @WA a γ ⟨fun ts γ' => @Put3 γ' i j k ts ⟨fun γ2 => Q.ap (.nx γ2)⟩⟩ := by
  unfold WS WA Put3 sPar3
  refine propext ⟨?_, ?_⟩
  · rintro ⟨o, h, q⟩
    split at h
    · rename_i h1; cases h; exact ⟨_, _, h1, _, _, _, rfl, q⟩
    · cases h
  · rintro ⟨ts, γ', h, t, u, w, rfl, q⟩
    exact ⟨_, by rw [h], q⟩
def gSt (l k v : T) : Option T := match l, k with
  | .lst ts, .int k => (ixN ts.length k).map fun j => .lst (ts.set j v)
  | _, _ => none
theorem ws_setI {fv fi : Ex} : @WS (sSetI i fv fi) γ Q = @WE fv γ ⟨fun v γ1 => @Get γ1 i ⟨fun _ => @WE fi γ1 ⟨fun k γ2 => @Get γ2 i ⟨fun l => @WO (gSt l k v) ⟨fun l' => @Put γ2 i (some l') ⟨fun γ3 => Q.ap (.nx γ3)⟩⟩⟩⟩⟩⟩ := by
  unfold WS WE WO Get Put sSetI
  refine propext ⟨?_, ?_⟩
  · rintro ⟨o, h, q⟩
    obtain ⟨⟨x, γ1⟩, h1, h⟩ := Option.bind_eq_some_iff.mp h
    dsimp only at h
    split at h
    · rename_i t0 h0
      obtain ⟨⟨y, γ2⟩, h2, h⟩ := Option.bind_eq_some_iff.mp h
      dsimp only at h
      split at h
      · rename_i ts k h3
        obtain ⟨j, h4, h⟩ := Option.map_eq_some_iff.mp h
        cases h
        exact ⟨x, γ1, h1, t0, h0, _, γ2, h2, _, h3, .lst (ts.set j x), by simp [gSt, h4], q⟩
      · cases h
    · cases h
  · rintro ⟨x, γ1, h1, t0, h0, y, γ2, h2, l, h3, l', h4, q⟩
    unfold gSt at h4
    split at h4
    · rename_i ts k
      obtain ⟨j, h5, h⟩ := Option.map_eq_some_iff.mp h4
      refine ⟨_, ?_, q⟩
      rw [h1, Option.bind_some]
      dsimp only
      rw [h0]
      dsimp only
      rw [h2, Option.bind_some]
      dsimp only
      rw [h3]
      dsimp only
      rw [h5]
      dsimp only [Option.map_some]
      rw [h]
    · cases h4
theorem ws_for {src : Ix} {tg : T → En → Option En} : @WS (sFor src tg F) γ Q = @WI src γ ⟨fun ts γ' => @WF tg F ts γ' Q⟩ := by
  unfold WS WI WF sFor
  refine propext ⟨?_, ?_⟩
  · rintro ⟨o, h, q⟩
    obtain ⟨⟨x, γ1⟩, h1, h⟩ := Option.bind_eq_some_iff.mp h
    exact ⟨x, γ1, h1, o, h, q⟩
  · rintro ⟨x, γ1, h1, o, h, q⟩
    exact ⟨o, by rw [h1]; exact h, q⟩
theorem ws_while : @WS (sWhile cc F) γ Q = @WW cc F γ Q := rfl
theorem wg_n : @WG (tgN i) t γ Kg = @Put γ i (some t) Kg := by simp [WG, Put]
theorem wg_seqT {n : Nat} {h : TgT} : @WG (tgSeq n h) (.tup ts) γ Kg = @Sd (ts.length = n) ⟨@WGs h ts γ Kg⟩ := by
  unfold WG WGs tgSeq
  refine propext ⟨?_, ?_⟩
  · rintro ⟨γ', h, q⟩
    dsimp only at h
    split at h
    · rename_i hl; exact ⟨hl, γ', h, q⟩
    · cases h
  · rintro ⟨hl, γ', h, q⟩
    exact ⟨γ', by dsimp only; rw [if_pos hl]; exact h, q⟩
theorem wg_seqL {n : Nat} {h : TgT} : @WG (tgSeq n h) (.lst ts) γ Kg = @Sd (ts.length = n) ⟨@WGs h ts γ Kg⟩ := by
  unfold WG WGs tgSeq
  refine propext ⟨?_, ?_⟩
  · rintro ⟨γ', h, q⟩
    dsimp only at h
    split at h
    · rename_i hl; exact ⟨hl, γ', h, q⟩
    · cases h
  · rintro ⟨hl, γ', h, q⟩
    exact ⟨γ', by dsimp only; rw [if_pos hl]; exact h, q⟩
theorem wgs_nil : @WGs tgNil [] γ Kg = Kg.ap γ := by simp [WGs]
theorem wgs_cons {g : T → En → Option En} {h : TgT} : @WGs (tgCons g h) (t :: ts) γ Kg = @WG g t γ ⟨fun γ' => @WGs h ts γ' Kg⟩ := by
  unfold WGs WG tgCons
  refine propext ⟨?_, ?_⟩
  · rintro ⟨γ', h, q⟩
    obtain ⟨γ1, h1, h⟩ := Option.bind_eq_some_iff.mp h
    exact ⟨γ1, h1, γ', h, q⟩
  · rintro ⟨γ1, h1, γ', h, q⟩
    exact ⟨γ', by dsimp only; rw [h1]; exact h, q⟩
/-! what is walked -/
def sL : T → Option (List T)
  | .lst ts => some ts
  | _ => none
def sT : T → Option (List T)
  | .tup ts => some ts
  | _ => none
def sO : T → Option (List T)
  | .old ts => some ts
  | _ => none
def sA : T → Option (List T)
  | .lst ts => some ts
  | .tup ts => some ts
  | _ => none
def sE : T → Option (List T)
  | .lst ts => some (enuT ts)
  | _ => none
def sR1 : List T → Option (List T)
  | [.int j] => if -4611686018427387904 ≤ j ∧ j < 4611686018427387904 then some (rngT 0 j.toNat) else none
  | _ => none
def sR2 : List T → Option (List T)
  | [.int i, .int j] => if -4611686018427387904 ≤ i ∧ i < 4611686018427387904 ∧ -4611686018427387904 ≤ j ∧ j < 4611686018427387904 then some (rngT i (j - i).toNat) else none
  | _ => none
def sR3 : List T → Option (List T)
  | [.int i, .int j, .int c] => if c ≠ 0 ∧ c.natAbs < 1073741824 ∧ Builtin.Range.small i j c = true then some (rngC i c (Builtin.Range.rangeSize i j c).toNat) else none
  | _ => none
theorem wi_gen {s : Ix} {z : T → Option (List T)} (h : ∀ γ, s γ = (f γ).bind fun p => (z p.1).map fun r => (r, p.2)) : @WI s γ Ka = @WE f γ ⟨fun t γ' => @WL (z t) ⟨fun r => Ka.ap r γ'⟩⟩ := by
  unfold WI WE WL
  rw [h]
  refine propext ⟨?_, ?_⟩
  · rintro ⟨t, γ', h, q⟩
    obtain ⟨⟨x, γ1⟩, h1, h⟩ := Option.bind_eq_some_iff.mp h
    obtain ⟨z, h3, h⟩ := Option.map_eq_some_iff.mp h
    cases h
    exact ⟨x, γ1, h1, _, h3, q⟩
  · rintro ⟨x, γ1, h1, z, h3, q⟩
    exact ⟨z, γ1, by rw [h1, Option.bind_some]; dsimp only; rw [h3]; rfl, q⟩
theorem wi_genA {a : Ax} {s : Ix} {z : List T → Option (List T)} (h : ∀ γ, s γ = (a γ).bind fun p => (z p.1).map fun r => (r, p.2)) : @WI s γ Ka = @WA a γ ⟨fun t γ' => @WL (z t) ⟨fun r => Ka.ap r γ'⟩⟩ := by
  unfold WI WA WL
  rw [h]
  refine propext ⟨?_, ?_⟩
  · rintro ⟨t, γ', h, q⟩
    obtain ⟨⟨x, γ1⟩, h1, h⟩ := Option.bind_eq_some_iff.mp h
    obtain ⟨z, h3, h⟩ := Option.map_eq_some_iff.mp h
    cases h
    exact ⟨x, γ1, h1, _, h3, q⟩
  · rintro ⟨x, γ1, h1, z, h3, q⟩
    exact ⟨z, γ1, by rw [h1, Option.bind_some]; dsimp only; rw [h3]; rfl, q⟩
theorem wi_seq : @WI (iSeq f) γ Ka = @WE f γ ⟨fun t γ' => @WL (sL t) ⟨fun r => Ka.ap r γ'⟩⟩ := wi_gen fun γ => by
  unfold iSeq
  rcases f γ with _ | ⟨t, γ'⟩
  · rfl
  · cases t <;> rfl
theorem wi_tupl : @WI (iTupl f) γ Ka = @WE f γ ⟨fun t γ' => @WL (sT t) ⟨fun r => Ka.ap r γ'⟩⟩ := wi_gen fun γ => by
  unfold iTupl
  rcases f γ with _ | ⟨t, γ'⟩
  · rfl
  · cases t <;> rfl
theorem wi_old : @WI (iOld f) γ Ka = @WE f γ ⟨fun t γ' => @WL (sO t) ⟨fun r => Ka.ap r γ'⟩⟩ := wi_gen fun γ => by
  unfold iOld
  rcases f γ with _ | ⟨t, γ'⟩
  · rfl
  · cases t <;> rfl
theorem wi_any : @WI (iAny f) γ Ka = @WE f γ ⟨fun t γ' => @WL (sA t) ⟨fun r => Ka.ap r γ'⟩⟩ := wi_gen fun γ => by
  unfold iAny
  rcases f γ with _ | ⟨t, γ'⟩
  · rfl
  · cases t <;> rfl
theorem wi_enu : @WI (iEnu f) γ Ka = @WE f γ ⟨fun t γ' => @WL (sE t) ⟨fun r => Ka.ap r γ'⟩⟩ := wi_gen fun γ => by
  unfold iEnu
  rcases f γ with _ | ⟨t, γ'⟩
  · rfl
  · cases t <;> rfl
theorem wi_r1 {a : Ax} : @WI (iR1 a) γ Ka = @WA a γ ⟨fun t γ' => @WL (sR1 t) ⟨fun r => Ka.ap r γ'⟩⟩ := wi_genA fun γ => by
  unfold iR1
  rcases a γ with _ | ⟨t, γ'⟩
  · rfl
  · dsimp only [Option.bind_some]
    unfold sR1
    split
    · rename_i h; cases h; dsimp only; split <;> rfl
    · rename_i h
      split
      · rename_i j; exact absurd rfl (h j γ')
      · rfl
theorem wi_r2 {a : Ax} : @WI (iR2 a) γ Ka = @WA a γ ⟨fun t γ' => @WL (sR2 t) ⟨fun r => Ka.ap r γ'⟩⟩ := wi_genA fun γ => by
  unfold iR2
  rcases a γ with _ | ⟨t, γ'⟩
  · rfl
  · dsimp only [Option.bind_some]
    unfold sR2
    split
    · rename_i h; cases h; dsimp only; split <;> rfl
    · rename_i h
      split
      · rename_i i j; exact absurd rfl (h i j γ')
      · rfl
theorem wi_r3 {a : Ax} : @WI (iR3 a) γ Ka = @WA a γ ⟨fun t γ' => @WL (sR3 t) ⟨fun r => Ka.ap r γ'⟩⟩ := wi_genA fun γ => by
  unfold iR3
  rcases a γ with _ | ⟨t, γ'⟩
  · rfl
  · dsimp only [Option.bind_some]
    unfold sR3
    split
    · rename_i h; cases h; dsimp only; split <;> rfl
    · rename_i h
      split
      · rename_i i j c; exact absurd rfl (h i j c γ')
      · rfl
def sZ : T → T → Option (List T)
  | .lst ts, .lst us => some (zipT ts us)
  | _, _ => none
theorem wi_zip : @WI (iZipL a b) γ Ka = @WE a γ ⟨fun x γ1 => @WE b γ1 ⟨fun y γ2 => @WL (sZ x y) ⟨fun r => Ka.ap r γ2⟩⟩⟩ := by
  unfold WI WE WL iZipL
  refine propext ⟨?_, ?_⟩
  · rintro ⟨t, γ', h, q⟩
    split at h
    · rename_i ts γ1 h1
      split at h
      · rename_i us γ2 h2
        cases h
        exact ⟨_, _, h1, _, _, h2, _, rfl, q⟩
      · cases h
    · cases h
  · rintro ⟨x, γ1, h1, y, γ2, h2, z, h3, q⟩
    unfold sZ at h3
    split at h3
    · cases h3
      exact ⟨_, γ2, by rw [h1]; dsimp only; rw [h2], q⟩
    · cases h3
theorem we_comp {own : List Nat} {src : Ix} {tg : T → En → Option En} {test : Tx} {elt : Ex} : @WE (eComp own src tg test elt) γ Ke = @WI src γ ⟨fun ts γ' => @WCo own tg test elt ts γ' ⟨fun us γ2 => Ke.ap (.lst us) γ2⟩⟩ := by
  unfold WE WI WCo eComp
  refine propext ⟨?_, ?_⟩
  · rintro ⟨t, γ', h, q⟩
    obtain ⟨⟨x, γ1⟩, h1, h⟩ := Option.bind_eq_some_iff.mp h
    obtain ⟨⟨us, γ2⟩, h3, h⟩ := Option.map_eq_some_iff.mp h
    cases h
    exact ⟨x, γ1, h1, us, _, h3, q⟩
  · rintro ⟨x, γ1, h1, us, γ2, h3, q⟩
    exact ⟨_, γ2, by rw [h1, Option.bind_some]; dsimp only; rw [h3]; rfl, q⟩
def Two' (i j : T) [K : KL] : Prop := ∃ a b, i = .int a ∧ j = .int b ∧ (-4611686018427387904 ≤ a ∧ a < 4611686018427387904 ∧ -4611686018427387904 ≤ b ∧ b < 4611686018427387904 ∧ (b - a).toNat ≤ 16777216) ∧ K.ap (rngT a (b - a).toNat)
theorem two'_i : @Two' (.int ii) (.int jj) Kl = @Sd (-4611686018427387904 ≤ ii ∧ ii < 4611686018427387904 ∧ -4611686018427387904 ≤ jj ∧ jj < 4611686018427387904 ∧ (jj - ii).toNat ≤ 16777216) ⟨Kl.ap (rngT ii (jj - ii).toNat)⟩ := by
  refine propext ⟨?_, ?_⟩
  · rintro ⟨a, b, h1, h2, h3, h4⟩
    cases h1; cases h2
    exact ⟨h3, h4⟩
  · rintro ⟨h3, h4⟩
    exact ⟨_, _, rfl, rfl, h3, h4⟩
theorem we_lr1 : @WE (eListR (rx1 f)) γ Ke = @WE f γ ⟨fun t γ' => @Two' (.int 0) t ⟨fun us => Ke.ap (.lst us) γ'⟩⟩ := by
  unfold WE Two' eListR rx1
  refine propext ⟨?_, ?_⟩
  · rintro ⟨t, γ', h, q⟩
    obtain ⟨⟨i, j, γ1⟩, h1, h⟩ := Option.bind_eq_some_iff.mp h
    split at h1
    · rename_i h2
      cases h1
      dsimp only at h
      split at h
      · rename_i h3
        cases h
        exact ⟨_, _, h2, 0, _, rfl, rfl, h3, q⟩
      · cases h
    · cases h1
  · rintro ⟨t, γ', h, a, b, h1, rfl, h3, q⟩
    cases h1
    exact ⟨_, γ', by rw [h]; dsimp only [Option.bind_some]; exact if_pos h3, q⟩
theorem we_lr2 : @WE (eListR (rx2 f1 f2)) γ Ke = @WE f1 γ ⟨fun t γ1 => @WE f2 γ1 ⟨fun u γ' => @Two' t u ⟨fun us => Ke.ap (.lst us) γ'⟩⟩⟩ := by
  unfold WE Two' eListR rx2
  refine propext ⟨?_, ?_⟩
  · rintro ⟨t, γ', h, q⟩
    obtain ⟨⟨i, j, γ1⟩, h1, h⟩ := Option.bind_eq_some_iff.mp h
    obtain ⟨⟨x, γ2⟩, h2, h1⟩ := Option.bind_eq_some_iff.mp h1
    obtain ⟨⟨y, γ3⟩, h4, h1⟩ := Option.bind_eq_some_iff.mp h1
    dsimp only at h1
    split at h1
    · cases h1
      dsimp only at h
      split at h
      · rename_i h3
        cases h
        exact ⟨_, _, h2, _, _, h4, _, _, rfl, rfl, h3, q⟩
      · cases h
    · cases h1
  · rintro ⟨t, γ1, h, u, γ', h2, a, b, rfl, rfl, h3, q⟩
    exact ⟨_, γ', by rw [h]; dsimp only [Option.bind_some]; rw [h2]; dsimp only [Option.bind_some]; exact if_pos h3, q⟩
/-! a def -/
def iniE : Nat → List T → En
  | n, t :: ts => some t :: iniE (n - 1) ts
  | n, [] => List.replicate n none
def Ini (n : Nat) (ts : List T) [K : KG] : Prop := K.ap (ts.map some ++ List.replicate (n - ts.length) none)
theorem ini_0 : @Ini 0 [] Kg = Kg.ap [] := rfl
theorem ini_n : @Ini (n + 1) [] Kg = @Ini n [] ⟨fun γ => Kg.ap (none :: γ)⟩ := rfl
theorem ini_s : @Ini (n + 1) (t :: ts) Kg = @Ini n ts ⟨fun γ => Kg.ap (some t :: γ)⟩ := by
  unfold Ini
  rw [List.length_cons, Nat.add_sub_add_right]
  rfl
theorem wc_sem {pl : List Nat} : @WC (semOf n pl F ts) Kc = @Ini n ts ⟨fun γ => @WS F γ (finK pl Kc)⟩ := by
  unfold WC Ini WS semOf
  refine propext ⟨?_, ?_⟩
  · rintro ⟨t, u, h, q⟩
    split at h
    · rename_i h1; cases h; exact ⟨_, h1, q⟩
    · rename_i h1; cases h; exact ⟨_, h1, q⟩
    · cases h
  · rintro ⟨o, h, q⟩
    cases o with
    | nx γ => exact ⟨_, _, by rw [h], q⟩
    | rt t γ => exact ⟨_, _, by rw [h], q⟩
    | bk γ => exact q.elim
    | ct γ => exact q.elim
def semT (o : Option (T × List T)) (t : T) (us : List T) : Prop := o = some (t, us)
theorem wc_eq {o : Option (T × List T)} (h : @WC o ⟨fun t' us' => t' = t ∧ us' = us⟩) : o = some (t, us) := by
  obtain ⟨_, _, h, rfl, rfl⟩ := h
  exact h
theorem wc_of {o : Option (T × List T)} (h : o = some (t, us)) (k : Kc.ap t us) : @WC o Kc := ⟨t, us, h, k⟩
theorem wo_of {o : Option T} (h : o = some t) (k : Kt.ap t) : @WO o Kt := ⟨t, h, k⟩
theorem wc_mono {o : Option (T × List T)} {P : T → List T → Prop} (h : @WC o ⟨P⟩) (k : ∀ t us, P t us → Kc.ap t us) : @WC o Kc := by
  obtain ⟨t, us, h, q⟩ := h
  exact ⟨t, us, h, k t us q⟩
theorem ws_mono {P : Out → Prop} (h : @WS F γ ⟨P⟩) (k : ∀ o, P o → Q.ap o) : @WS F γ Q := by
  obtain ⟨o, h, q⟩ := h
  exact ⟨o, h, k o q⟩
/-- what stands behind F1, told once -/
theorem ws_cut (R : En → Prop) (h : @WS F1 γ ⟨fun o => ∃ γ', o = .nx γ' ∧ R γ'⟩) (k : ∀ γ', R γ' → @WS F2 γ' Q) : @WS (sSeq F1 F2) γ Q := by
  rw [ws_seq]
  refine ws_mono h ?_
  rintro o ⟨γ', rfl, hr⟩
  exact k γ' hr
theorem br_i (h1 : bb = true → A.ap) (h2 : bb = false → B.ap) : @Br bb A B := ⟨h1, h2⟩
theorem br_d {p : Prop} [Decidable p] (h1 : p → A.ap) (h2 : ¬p → B.ap) : @Br (decide p) A B := ⟨fun h => h1 (of_decide_eq_true h), fun h => h2 (of_decide_eq_false h)⟩
theorem sd_i {p : Prop} (h1 : p) (h2 : A.ap) : @Sd p A := ⟨h1, h2⟩
/-- two ways that come together, with one slot stored -/
theorem br_set (i : Nat) (P : T → Prop) (h1 : bb = true → @WS F1 γ ⟨fun o => ∃ t, o = .nx (γ.set i (some t)) ∧ P t⟩) (h2 : bb = false → @WS F2 γ ⟨fun o => ∃ t, o = .nx (γ.set i (some t)) ∧ P t⟩)
    (k : ∀ t, P t → @Put γ i (some t) ⟨fun γ' => @WS F γ' Q⟩) : @Br bb ⟨@WS F1 γ (seqK F Q)⟩ ⟨@WS F2 γ (seqK F Q)⟩ := by
  refine ⟨fun e => ?_, fun e => ?_⟩
  · refine ws_mono (h1 e) ?_
    rintro o ⟨t, rfl, ht⟩
    exact k t ht
  · refine ws_mono (h2 e) ?_
    rintro o ⟨t, rfl, ht⟩
    exact k t ht
theorem br_join (R : En → Prop) (h1 : bb = true → @WS F1 γ ⟨fun o => ∃ γ', o = .nx γ' ∧ R γ'⟩) (h2 : bb = false → @WS F2 γ ⟨fun o => ∃ γ', o = .nx γ' ∧ R γ'⟩)
    (k : ∀ γ', R γ' → @WS F γ' Q) : @Br bb ⟨@WS F1 γ (seqK F Q)⟩ ⟨@WS F2 γ (seqK F Q)⟩ := by
  refine ⟨fun e => ?_, fun e => ?_⟩
  · refine ws_mono (h1 e) ?_
    rintro o ⟨γ', rfl, ht⟩
    exact k γ' ht
  · refine ws_mono (h2 e) ?_
    rintro o ⟨γ', rfl, ht⟩
    exact k γ' ht
/-! loops -/
theorem wf_nil {tg : T → En → Option En} : @WF tg F [] γ Q = Q.ap (.nx γ) := by simp [WF, forL]
theorem wf_cons {tg : T → En → Option En} : @WF tg F (t :: ts) γ Q = @WG tg t γ ⟨fun γ1 => @WS F γ1 (lpK (fun γ2 => @WF tg F ts γ2 Q) Q)⟩ := by
  refine propext ⟨?_, ?_⟩
  · rintro ⟨o, h, q⟩
    conv at h => lhs; unfold forL
    obtain ⟨γ1, h1, h⟩ := Option.bind_eq_some_iff.mp h
    refine ⟨γ1, h1, ?_⟩
    split at h
    · rename_i h2; exact ⟨_, h2, o, h, q⟩
    · rename_i h2; exact ⟨_, h2, o, h, q⟩
    · rename_i h2; cases h; exact ⟨_, h2, q⟩
    · rename_i n1 n2 n3
      refine ⟨o, h, ?_⟩
      cases o with
      | nx γ' => exact absurd h (n1 γ')
      | ct γ' => exact absurd h (n2 γ')
      | bk γ' => exact absurd h (n3 γ')
      | rt t γ' => exact q
  · rintro ⟨γ1, h1, o, h2, q⟩
    cases o with
    | nx γ' => obtain ⟨o, h3, q⟩ := q; exact ⟨o, by rw [forL_cons h1, h2]; exact h3, q⟩
    | ct γ' => obtain ⟨o, h3, q⟩ := q; exact ⟨o, by rw [forL_cons h1, h2]; exact h3, q⟩
    | bk γ' => exact ⟨_, by rw [forL_cons h1, h2], q⟩
    | rt t γ' => exact ⟨_, by rw [forL_cons h1, h2], q⟩
end
theorem wf_for {tg : T → En → Option En} {F : Fs} {Q : KQ} : ∀ {ts : List T} {γ : En} (I : Nat → En → Prop), I 0 γ → (∀ (i : Nat) (t : T) (γ : En), ts[i]? = some t → I i γ → @WG tg t γ ⟨fun γ1 => @WS F γ1 (lpK (I (i + 1)) Q)⟩) →
    (∀ γ, I ts.length γ → Q.ap (.nx γ)) → @WF tg F ts γ Q
  | [], γ, I, h0, _, he => ⟨.nx γ, rfl, he γ h0⟩
  | t :: ts, γ, I, h0, hs, he => by
    obtain ⟨γ1, h1, o, h2, q⟩ := hs 0 t γ rfl h0
    cases o with
    | nx γ2 =>
      obtain ⟨o, h3, q3⟩ := wf_for (ts := ts) (fun n => I (n + 1)) q (fun i t γ hi => hs (i + 1) t γ hi) he
      exact ⟨o, by rw [forL_cons h1, h2]; exact h3, q3⟩
    | ct γ2 =>
      obtain ⟨o, h3, q3⟩ := wf_for (ts := ts) (fun n => I (n + 1)) q (fun i t γ hi => hs (i + 1) t γ hi) he
      exact ⟨o, by rw [forL_cons h1, h2]; exact h3, q3⟩
    | bk γ2 => exact ⟨_, by rw [forL_cons h1, h2], q⟩
    | rt t γ2 => exact ⟨_, by rw [forL_cons h1, h2], q⟩
theorem wf_rng {tg : T → En → Option En} {F : Fs} {Q : KQ} {lo : Int} {n : Nat} {γ : En} (I : Nat → En → Prop) (h0 : I 0 γ) (hs : ∀ (i : Nat) (γ : En), i < n → I i γ → @WG tg (.int (lo + i)) γ ⟨fun γ1 => @WS F γ1 (lpK (I (i + 1)) Q)⟩)
    (he : ∀ γ, I n γ → Q.ap (.nx γ)) : @WF tg F (rngT lo n) γ Q := wf_for I h0 (fun i t γ hi hI => by
  obtain ⟨h1, rfl⟩ := rngT_get hi
  exact hs i γ h1 hI) (by rw [rngT_len]; exact he)
theorem wf_map {α : Type} {xs : List α} {e : α → T} {tg : T → En → Option En} {F : Fs} {Q : KQ} {γ : En} (I : Nat → En → Prop) (h0 : I 0 γ) (hs : ∀ (i : Nat) (γ : En) (h : i < xs.length), I i γ → @WG tg (e xs[i]) γ ⟨fun γ1 => @WS F γ1 (lpK (I (i + 1)) Q)⟩)
    (he : ∀ γ, I xs.length γ → Q.ap (.nx γ)) : @WF tg F (xs.map e) γ Q := wf_for I h0 (fun i t γ hi hI => by
  rw [List.getElem?_map] at hi
  obtain ⟨x, hx, rfl⟩ := Option.map_eq_some_iff.mp hi
  obtain ⟨h, rfl⟩ := List.getElem?_eq_some_iff.mp hx
  exact hs i γ h hI) (by rw [List.length_map]; exact he)
/-- one that keeps what it knows -/
theorem wf_all {tg : T → En → Option En} {F : Fs} {Q : KQ} {ts : List T} {γ : En} (I : En → Prop) (h0 : I γ) (hs : ∀ (t : T) (γ : En), t ∈ ts → I γ → @WG tg t γ ⟨fun γ1 => @WS F γ1 (lpK I Q)⟩)
    (he : ∀ γ, I γ → Q.ap (.nx γ)) : @WF tg F ts γ Q := wf_for (fun _ => I) h0 (fun i t γ hi hI => hs t γ (List.mem_of_getElem? hi) hI) he
theorem ww_of {c : Tx} {F : Fs} {Q : KQ} (I : Nat → En → Prop) (hs : ∀ (n : Nat) (γ : En), I n γ → @WT c γ ⟨fun b γ1 => @Br b ⟨@WS F γ1 (lpK (fun γ2 => ∃ k, k < n ∧ I k γ2) Q)⟩ ⟨Q.ap (.nx γ1)⟩⟩) (m : Nat) {γ : En} (h0 : I m γ) : @WW c F γ Q := by
  suffices key : ∀ (m : Nat) (γ : En), I m γ → ∃ o n, whileN c F n γ = some o ∧ Q.ap o by
    obtain ⟨o, n, h, q⟩ := key m γ h0
    exact ⟨o, sWhile_of h, q⟩
  intro m
  induction m using Nat.strongRecOn with
  | ind m ih =>
    intro γ hI
    obtain ⟨b, γ1, h1, hb⟩ := hs m γ hI
    cases b with
    | false => exact ⟨_, 1, by unfold whileN; rw [h1]; rfl, hb.f rfl⟩
    | true =>
      obtain ⟨o, h2, q⟩ := hb.t rfl
      cases o with
      | nx γ2 =>
        obtain ⟨k, hk, hI⟩ := q
        obtain ⟨o, n, h3, q3⟩ := ih k hk γ2 hI
        exact ⟨o, n + 1, by conv => lhs; unfold whileN
                            rw [h1]; simp only [Option.bind_some, if_true, h2, h3], q3⟩
      | ct γ2 =>
        obtain ⟨k, hk, hI⟩ := q
        obtain ⟨o, n, h3, q3⟩ := ih k hk γ2 hI
        exact ⟨o, n + 1, by conv => lhs; unfold whileN
                            rw [h1]; simp only [Option.bind_some, if_true, h2, h3], q3⟩
      | bk γ2 => exact ⟨_, 1, by conv => lhs; unfold whileN
                                 rw [h1]; simp only [Option.bind_some, if_true, h2], q⟩
      | rt t γ2 => exact ⟨_, 1, by conv => lhs; unfold whileN
                                   rw [h1]; simp only [Option.bind_some, if_true, h2], q⟩
/-! comprehensions -/
theorem sizeLine_eq : sizeLine = 16777216 := Eq.symm (Eq.symm rfl)
theorem okMul_lit {i j : Int} (h : j.natAbs < 18446744073709551616) : okMul i j = true := okMul_r h
theorem okMul_lit2 {i j : Int} (h : i.natAbs < 18446744073709551616) : okMul i j = true := by
  unfold okMul
  simp [h]
theorem okDiv_lit {j : Int} (h0 : j ≠ 0) (h : j.natAbs < 18446744073709551616) : okDiv j = true := okDiv_of (m := 64) h0 h (by decide)
theorem compL_gen {own : List Nat} {tg : T → En → Option En} {test : Tx} {elt : Ex} : ∀ {ts : List T} {γ : En} {acc : List T} (I : Nat → List T → En → Prop), acc.length + ts.length ≤ sizeLine → I 0 acc γ →
    (∀ (i : Nat) (t : T) (acc : List T) (γ : En), ts[i]? = some t → I i acc γ → @WG tg t (wipeE γ own) ⟨fun γ1 => @WT test γ1 ⟨fun b γ2 => @Br b ⟨@WE elt γ2 ⟨fun u γ3 => I (i + 1) (acc ++ [u]) (backE γ γ3 own)⟩⟩ ⟨I (i + 1) acc (backE γ γ2 own)⟩⟩⟩) →
    ∃ us γ', compL own tg test elt ts γ acc = some (us, γ') ∧ I ts.length us γ'
  | [], γ, acc, I, _, h0, _ => ⟨acc, γ, rfl, h0⟩
  | t :: ts, γ, acc, I, hl, h0, hs => by
    obtain ⟨γ1, h1, b, γ2, h2, hb⟩ := hs 0 t acc γ rfl h0
    cases b with
    | false =>
      obtain ⟨us, γ', h3, q⟩ := compL_gen (ts := ts) (acc := acc) (fun n => I (n + 1)) (by simp at hl ⊢; omega) (hb.f rfl) (fun i t acc γ hi => hs (i + 1) t acc γ hi)
      refine ⟨us, γ', ?_, q⟩
      conv => lhs; unfold compL
      rw [h1, Option.bind_some, h2, Option.bind_some]
      exact h3
    | true =>
      obtain ⟨u, γ3, h4, q⟩ := hb.t rfl
      obtain ⟨us, γ', h3, q⟩ := compL_gen (ts := ts) (acc := acc ++ [u]) (fun n => I (n + 1)) (by simp at hl ⊢; omega) q (fun i t acc γ hi => hs (i + 1) t acc γ hi)
      refine ⟨us, γ', ?_, q⟩
      conv => lhs; unfold compL
      rw [h1, Option.bind_some, h2, Option.bind_some]
      dsimp only
      rw [if_pos rfl, h4, Option.bind_some]
      dsimp only
      rw [if_pos (by simp at hl; omega)]
      exact h3
section
variable {own : List Nat} {tg : T → En → Option En} {test : Tx} {elt : Ex} {ts : List T} {γ : En} {K : KA}
theorem wco_for (I : Nat → List T → En → Prop) (hl : ts.length ≤ sizeLine) (h0 : I 0 [] γ)
    (hs : ∀ (i : Nat) (t : T) (acc : List T) (γ : En), ts[i]? = some t → I i acc γ → @WG tg t (wipeE γ own) ⟨fun γ1 => @WT test γ1 ⟨fun b γ2 => @Br b ⟨@WE elt γ2 ⟨fun u γ3 => I (i + 1) (acc ++ [u]) (backE γ γ3 own)⟩⟩ ⟨I (i + 1) acc (backE γ γ2 own)⟩⟩⟩)
    (k : ∀ us γ', I ts.length us γ' → K.ap us γ') : @WCo own tg test elt ts γ K := by
  obtain ⟨us, γ', h, q⟩ := compL_gen (acc := []) I (by simpa using hl) h0 hs
  exact ⟨us, γ', h, k us γ' q⟩
theorem take_fm {f : T → Option T} {ts : List T} {i : Nat} {t : T} (h : ts[i]? = some t) : (ts.take (i + 1)).filterMap f = (ts.take i).filterMap f ++ (f t).toList := by
  rw [List.take_add_one, h, List.filterMap_append]
  cases hf : f t <;> simp [hf]
/-- one that changes nothing, with a test -/
theorem wco_fm (f : T → Option T) (hl : ts.length ≤ sizeLine)
    (hs : ∀ t ∈ ts, @WG tg t (wipeE γ own) ⟨fun γ1 => @WT test γ1 ⟨fun b γ2 => @Br b ⟨@WE elt γ2 ⟨fun u γ3 => f t = some u ∧ backE γ γ3 own = γ⟩⟩ ⟨f t = none ∧ backE γ γ2 own = γ⟩⟩⟩)
    (k : K.ap (ts.filterMap f) γ) : @WCo own tg test elt ts γ K := by
  refine wco_for (fun i acc γ' => acc = (ts.take i).filterMap f ∧ γ' = γ) hl (by simp) ?_ ?_
  · rintro i t acc γ' hi ⟨rfl, rfl⟩
    obtain ⟨γ1, h1, b, γ2, h2, hb⟩ := hs t (List.mem_of_getElem? hi)
    refine ⟨γ1, h1, b, γ2, h2, fun e => ?_, fun e => ?_⟩
    · obtain ⟨u, γ3, h3, h4, h5⟩ := hb.t e
      exact ⟨u, γ3, h3, by rw [take_fm hi, h4]; rfl, h5⟩
    · obtain ⟨h4, h5⟩ := hb.f e
      exact ⟨by rw [take_fm hi, h4]; simp, h5⟩
  · rintro us γ' ⟨rfl, rfl⟩
    rw [List.take_length]
    exact k
theorem wco_map (f : T → T) (hl : ts.length ≤ sizeLine)
    (hs : ∀ t ∈ ts, @WG tg t (wipeE γ own) ⟨fun γ1 => @WT test γ1 ⟨fun b γ2 => @Br b ⟨@WE elt γ2 ⟨fun u γ3 => u = f t ∧ backE γ γ3 own = γ⟩⟩ ⟨False⟩⟩⟩)
    (k : K.ap (ts.map f) γ) : @WCo own tg test elt ts γ K := by
  refine wco_fm (fun t => some (f t)) hl (fun t ht => ?_) (by rw [List.filterMap_eq_map']; exact k)
  obtain ⟨γ1, h1, b, γ2, h2, hb⟩ := hs t ht
  refine ⟨γ1, h1, b, γ2, h2, fun e => ?_, fun e => (hb.f e).elim⟩
  obtain ⟨u, γ3, h3, h4, h5⟩ := hb.t e
  exact ⟨u, γ3, h3, by rw [h4], h5⟩
theorem wco_rng {lo : Int} {n : Nat} (f : Nat → T) (hl : n ≤ 16777216)
    (hs : ∀ i, i < n → @WG tg (.int (lo + i)) (wipeE γ own) ⟨fun γ1 => @WT test γ1 ⟨fun b γ2 => @Br b ⟨@WE elt γ2 ⟨fun u γ3 => u = f i ∧ backE γ γ3 own = γ⟩⟩ ⟨False⟩⟩⟩)
    (k : K.ap ((List.range n).map f) γ) : @WCo own tg test elt (rngT lo n) γ K := by
  refine wco_for (fun i acc γ' => acc = (List.range i).map f ∧ γ' = γ) (by rw [sizeLine_eq]; simpa using hl) (by simp) ?_ ?_
  · rintro i t acc γ' hi ⟨rfl, rfl⟩
    obtain ⟨hn, rfl⟩ := rngT_get hi
    obtain ⟨γ1, h1, b, γ2, h2, hb⟩ := hs i hn
    refine ⟨γ1, h1, b, γ2, h2, fun e => ?_, fun e => (hb.f e).elim⟩
    obtain ⟨u, γ3, h3, h4, h5⟩ := hb.t e
    exact ⟨u, γ3, h3, by rw [List.range_succ, List.map_append, h4]; rfl, h5⟩
  · rintro us γ' ⟨rfl, rfl⟩
    rw [rngT_len]
    exact k
theorem wco_mapx {α : Type} {xs : List α} {e : α → T} (f : α → T) (hl : xs.length ≤ 16777216)
    (hs : ∀ x ∈ xs, @WG tg (e x) (wipeE γ own) ⟨fun γ1 => @WT test γ1 ⟨fun b γ2 => @Br b ⟨@WE elt γ2 ⟨fun u γ3 => u = f x ∧ backE γ γ3 own = γ⟩⟩ ⟨False⟩⟩⟩)
    (k : K.ap (xs.map f) γ) : @WCo own tg test elt (xs.map e) γ K := by
  refine wco_for (fun i acc γ' => acc = (xs.take i).map f ∧ γ' = γ) (by rw [sizeLine_eq]; simpa using hl) (by simp) ?_ ?_
  · rintro i t acc γ' hi ⟨rfl, rfl⟩
    rw [List.getElem?_map] at hi
    obtain ⟨x, hx, rfl⟩ := Option.map_eq_some_iff.mp hi
    obtain ⟨γ1, h1, b, γ2, h2, hb⟩ := hs x (List.mem_of_getElem? hx)
    refine ⟨γ1, h1, b, γ2, h2, fun e => ?_, fun e => (hb.f e).elim⟩
    obtain ⟨u, γ3, h3, h4, h5⟩ := hb.t e
    exact ⟨u, γ3, h3, by rw [List.take_add_one, hx, List.map_append, h4]; rfl, h5⟩
  · rintro us γ' ⟨rfl, rfl⟩
    rw [List.length_map, List.take_length]
    exact k
theorem wco_fmx {α : Type} {xs : List α} {e : α → T} (f : α → Option T) (hl : xs.length ≤ 16777216)
    (hs : ∀ x ∈ xs, @WG tg (e x) (wipeE γ own) ⟨fun γ1 => @WT test γ1 ⟨fun b γ2 => @Br b ⟨@WE elt γ2 ⟨fun u γ3 => f x = some u ∧ backE γ γ3 own = γ⟩⟩ ⟨f x = none ∧ backE γ γ2 own = γ⟩⟩⟩)
    (k : K.ap (xs.filterMap f) γ) : @WCo own tg test elt (xs.map e) γ K := by
  refine wco_for (fun i acc γ' => acc = (xs.take i).filterMap f ∧ γ' = γ) (by rw [sizeLine_eq]; simpa using hl) (by simp) ?_ ?_
  · rintro i t acc γ' hi ⟨rfl, rfl⟩
    rw [List.getElem?_map] at hi
    obtain ⟨x, hx, rfl⟩ := Option.map_eq_some_iff.mp hi
    have tk : (xs.take (i + 1)).filterMap f = (xs.take i).filterMap f ++ (f x).toList := by
      rw [List.take_add_one, hx, List.filterMap_append]
      cases hf : f x <;> simp [hf]
    obtain ⟨γ1, h1, b, γ2, h2, hb⟩ := hs x (List.mem_of_getElem? hx)
    refine ⟨γ1, h1, b, γ2, h2, fun e => ?_, fun e => ?_⟩
    · obtain ⟨u, γ3, h3, h4, h5⟩ := hb.t e
      exact ⟨u, γ3, h3, by rw [tk, h4]; rfl, h5⟩
    · obtain ⟨h4, h5⟩ := hb.f e
      exact ⟨by rw [tk, h4]; simp, h5⟩
  · rintro us γ' ⟨rfl, rfl⟩
    rw [List.length_map, List.take_length]
    exact k
end
end Tw
namespace LawP
open Tw L2
/-! the draws, for running -/
theorem pool_w {ns : List Int} {K : KC} (k : ∀ p, Pool ns p → K.ap p []) : @WC (sem__law_pool [scr ns]) K := by
  obtain ⟨p, h, q⟩ := pool_spec ns
  exact wc_of h (k p q)
theorem next_w {ns : List Int} {p : T} {K : KC} (h : Pool ns p) (k : ∀ p', Pool ns p' → K.ap .non [p']) : @WC (sem__law_next [p]) K := by
  obtain ⟨p', e, q⟩ := next_spec h
  exact wc_of e (k p' q)
theorem draw_w {ns : List Int} {p : T} {K : KC} {n : Int} (h : Pool ns p) (hn : 0 < n) (hb : n < 18446744073709551616) (k : ∀ (v : Nat) (p' : T), Pool ns p' → (v : Int) < n → K.ap (.int v) [p']) : @WC (sem__law_draw [p, .int n]) K := by
  obtain ⟨v, p', e, q, h1, h2⟩ := draw_spec h hn hb
  obtain ⟨v, rfl⟩ := Int.eq_ofNat_of_zero_le h1
  exact wc_of e (k v p' q h2)
theorem pick_w {ns : List Int} {p : T} {K : KC} {ts : List T} (h : Pool ns p) (hn : ts ≠ []) (hb : ts.length < 18446744073709551616) (k : ∀ (v : T) (p' : T), Pool ns p' → v ∈ ts → K.ap v [p']) : @WC (sem__law_pick [p, .lst ts]) K := by
  obtain ⟨v, p', e, q, h1⟩ := pick_spec h hn hb
  exact wc_of e (k v p' q h1)
end LawP

local macro_rules
  | `(tactic| dsimp?) => `(tactic| dsimp? [true_and])
  | `(tactic| dsimp? [$a,*]) => `(tactic| simp only [↓Tw.we_lit, ↓Tw.we_var, ↓Tw.get_0, ↓Tw.get_s, ↓Tw.put_0, ↓Tw.put_s, ↓Tw.putA_0, ↓Tw.putA_s, ↓Tw.we_bin, ↓Tw.we_un, ↓Tw.we_call, ↓Tw.we_chain, ↓Tw.wt_of, ↓Tw.we_eof, ↓Tw.we_not, ↓Tw.we_and, ↓Tw.we_or, ↓Tw.wt_yes, ↓Tw.wt_not, ↓Tw.wt_and, ↓Tw.wt_or, ↓Tw.wt_tru, ↓Tw.we_if, ↓Tw.wa_nil, ↓Tw.wa_cons, ↓Tw.wa_io, ↓Tw.we_tup, ↓Tw.we_lst, ↓Tw.we_own, ↓Tw.wx_none, ↓Tw.wx_some, ↓Tw.we_sl, ↓Tw.we_mut, ↓Tw.ws_nx, ↓Tw.ws_seq, ↓Tw.ws_kill, ↓Tw.ws_asg, ↓Tw.ws_drop, ↓Tw.ws_ret, ↓Tw.ws_retN, ↓Tw.ws_brk, ↓Tw.ws_cnt, ↓Tw.ws_if, ↓Tw.ws_asgT, ↓Tw.two_2, ↓Tw.ws_par, ↓Tw.put3_3, ↓Tw.ws_par3, ↓Tw.ws_setI, ↓Tw.ws_for, ↓Tw.ws_while, ↓Tw.wg_n, ↓Tw.wg_seqT, ↓Tw.wg_seqL, ↓Tw.wgs_nil, ↓Tw.wgs_cons, ↓Tw.wi_seq, ↓Tw.wi_tupl, ↓Tw.wi_old, ↓Tw.wi_any, ↓Tw.wi_enu, ↓Tw.wi_r1, ↓Tw.wi_r2, ↓Tw.wi_r3, ↓Tw.wi_zip, ↓Tw.we_comp, ↓Tw.two'_i, ↓Tw.we_lr1, ↓Tw.we_lr2, ↓Tw.ini_0, ↓Tw.ini_n, ↓Tw.ini_s, ↓Tw.wc_sem, ↓Tw.seqK_nx, ↓Tw.seqK_rt, ↓Tw.seqK_bk, ↓Tw.seqK_ct, ↓Tw.lpK_nx, ↓Tw.lpK_rt, ↓Tw.lpK_bk, ↓Tw.lpK_ct, ↓Tw.finK_nx, ↓Tw.finK_rt, Tw.br_t, Tw.br_f, Tw.br_n, Tw.sd_t, Tw.wo_s, Tw.wl_s, Tw.wb_s, Tw.wm_s, Tw.wc_s, Tw.wo_if, Tw.wl_if, Tw.wm_if, Tw.isB_b, Tw.isI_i, Tw.r_truB, Tw.r_truI, Tw.r_truN, Tw.r_truL, Tw.r_isL, Tw.r_app, Tw.r_outs0, Tw.r_outs, Tw.r_wipe0, Tw.r_wipe, Tw.r_add, Tw.r_addL, Tw.r_addT, Tw.r_sub, Tw.r_mul, Tw.r_mod, Tw.r_div, Tw.r_pow, Tw.r_lt, Tw.r_le, Tw.r_gt, Tw.r_ge, Tw.r_neg, Tw.r_ixL, Tw.r_ixO, Tw.r_ixT, Tw.r_lenL, Tw.r_lenO, Tw.r_lenT, Tw.r_lenI, Tw.r_int, Tw.r_abs, Tw.r_gcd, Tw.r_lof, Tw.r_tofL, Tw.r_tofT, Tw.r_is, Tw.r_isnt, Tw.r_slT, Tw.r_slL, Tw.r_eqI, Tw.r_neI, Tw.atI_0, Tw.atI_1, Tw.atI_2, Tw.atI_3, Tw.atI_4, Tw.atI_5, Tw.isT_nn, Tw.isT_in, Tw.isT_bn, Tw.isT_sn, Tw.isT_tn, Tw.isT_ln, Tw.isT_bb, Tw.isT_nb, Tw.isT_ib, Tw.isT_sb, Tw.isT_tb, Tw.isT_lb, Tw.sL, Tw.sT, Tw.sO, Tw.sA, Tw.sE, Tw.sR1, Tw.sR2, Tw.sR3, Tw.sZ, Tw.gSt, Tw.okMul_lit, Tw.okMul_lit2, Tw.okDiv_lit, Tw.sizeLine_eq, Int.reduceNeg, Int.reduceAdd, Int.reduceMul, Int.reduceSub, Int.reduceLT, Int.reduceLE, Int.reduceGT, Int.reduceGE, Int.reduceEq, Int.reduceNe, Int.reduceAbs, Int.reduceToNat, Nat.reduceAdd, Nat.reduceMul, Nat.reduceSub, Nat.reduceLT, Nat.reduceLeDiff, Nat.reduceEqDiff, reduceCtorEq, ne_eq, eq_self, and_false, false_and, Bool.and_true, Bool.true_and, Bool.and_false, Bool.false_and, List.getElem?_cons_zero, List.getElem?_cons_succ, List.length_cons, List.length_nil, List.set_cons_zero, List.set_cons_succ, Option.map_some, Option.map_none, Option.bind_some, true_and, and_true, and_self, Tw.r_back0, Tw.r_back, Option.getD_some, Option.getD_none, if_true, decide_true, decide_false, Bool.not_true, Bool.not_false, not_true_eq_false, not_false_eq_true, $a,*])
namespace Tw
section
variable {own : List Nat} {tg : T → En → Option En} {test : Tx} {elt : Ex} {γ : En} {K : KA}
theorem wco_rngf {lo : Int} {n : Nat} (p : Nat → Bool) (f : Nat → T) (hl : n ≤ 16777216)
    (hs : ∀ i, i < n → @WG tg (.int (lo + i)) (wipeE γ own) ⟨fun γ1 => @WT test γ1 ⟨fun b γ2 => b = p i ∧ @Br b ⟨@WE elt γ2 ⟨fun u γ3 => u = f i ∧ backE γ γ3 own = γ⟩⟩ ⟨backE γ γ2 own = γ⟩⟩⟩)
    (k : K.ap (((List.range n).filter p).map f) γ) : @WCo own tg test elt (rngT lo n) γ K := by
  refine wco_for (fun i acc γ' => acc = ((List.range i).filter p).map f ∧ γ' = γ) (by rw [sizeLine_eq]; simpa using hl) (by simp) ?_ ?_
  · rintro i t acc γ' hi ⟨rfl, rfl⟩
    obtain ⟨hn, rfl⟩ := rngT_get hi
    obtain ⟨γ1, h1, b, γ2, h2, hp, hb⟩ := hs i hn
    refine ⟨γ1, h1, b, γ2, h2, fun e => ?_, fun e => ?_⟩
    · obtain ⟨u, γ3, h3, h4, h5⟩ := hb.t e
      refine ⟨u, γ3, h3, ?_, h5⟩
      rw [List.range_succ, List.filter_append, List.map_append, List.filter_cons, ← hp, e, h4]
      rfl
    · refine ⟨?_, hb.f e⟩
      rw [List.range_succ, List.filter_append, List.map_append, List.filter_cons, ← hp, e]
      simp
  · rintro us γ' ⟨rfl, rfl⟩
    rw [rngT_len]
    exact k
end
end Tw
namespace LawP
open Tw L2
theorem enu_get {c : List Int} {i : Nat} {t : T} (h : (enuT (c.map T.int))[i]? = some t) : i < c.length ∧ t = .tup [.int i, .int (c.getD i 0)] := by
  unfold enuT at h
  rw [List.getElem?_mapIdx] at h
  obtain ⟨u, hu, rfl⟩ := Option.map_eq_some_iff.mp h
  rw [List.getElem?_map] at hu
  obtain ⟨v, hv, rfl⟩ := Option.map_eq_some_iff.mp hu
  obtain ⟨h1, h2⟩ := List.getElem?_eq_some_iff.mp hv
  refine ⟨h1, ?_⟩
  rw [List.getD_eq_getElem?_getD, hv]
  rfl
theorem mod_nat {n a : Nat} : ((n : Int).fmod (a : Int)) = ((n % a : Nat) : Int) := by
  rw [Int.fmod_eq_emod_of_nonneg _ (by omega)]
  rfl
theorem sum_L {xs : List Int} : gSum [.lst (xs.map T.int)] = some (.int xs.sum) := iL_sum
theorem getD_set {c : List Int} {a i : Nat} {v : Int} (ha : a < c.length) : (c.set a v).getD i 0 = if i = a then v else c.getD i 0 := by
  rw [List.getD_eq_getElem?_getD, List.getD_eq_getElem?_getD, List.getElem?_set]
  by_cases h : a = i
  · subst h; simp [ha]
  · rw [if_neg h, if_neg (fun z => h z.symm)]
theorem fmod_zero {x : Int} {m : Int} : x.fmod m = 0 ↔ m ∣ x := by
  constructor
  · intro h
    exact ⟨x.fdiv m, by have := Int.mul_fdiv_add_fmod x m; omega⟩
  · rintro ⟨k, rfl⟩
    exact Int.mul_fmod_right m k
theorem fmod_eq {x y m : Int} : x.fmod m = y.fmod m ↔ m ∣ x - y := by
  have e1 := Int.mul_fdiv_add_fmod x m
  have e2 := Int.mul_fdiv_add_fmod y m
  constructor
  · intro h
    exact ⟨x.fdiv m - y.fdiv m, by rw [h] at e1; grind⟩
  · rintro ⟨k, hk⟩
    have : x = y + m * k := by omega
    rw [this, Int.add_mul_fmod_self_left]
theorem mapset {c : List Int} {i : Nat} {v : Int} : (List.map T.int c).set i (T.int v) = List.map T.int (c.set i v) := List.map_set.symm
theorem ixN_of {n i : Nat} (h : i < n) : ixN n (i : Int) = some i := by
  unfold ixN
  rw [if_pos (by omega)]
  simp
  exact h
theorem gAll_bls {bs : List Bool} : gAll [.lst (bs.map T.bl)] = some (.bl (bs.all id)) := by
  show (blsOf (bs.map T.bl)).map _ = _
  rw [blsOf_map]
  rfl
theorem eqTs_ints : ∀ (a b : List Int), PySem.PyData.eqvAll (toDs (a.map T.int)) (toDs (b.map T.int)) = decide (a = b)
  | [], [] => by simp
  | [], y :: b => by simp [toDs, PySem.PyData.eqvAll]
  | x :: a, [] => by simp [toDs, PySem.PyData.eqvAll]
  | x :: a, y :: b => by
    rw [List.map_cons, List.map_cons, eqAll_cons, eqTs_ints a b, eqT_int, ← Bool.decide_and]
    refine decide_eq_decide.mpr ?_
    simp
theorem okT_ints {a : List Int} : okT (.lst (a.map T.int)) = true := by
  show (a.map T.int).all (okN 59) = true
  rw [List.all_eq_true]
  intro t ht
  obtain ⟨x, _, rfl⟩ := List.mem_map.mp ht
  rfl
theorem gEq_L {a b : List Int} : gEq (.lst (a.map T.int)) (.lst (b.map T.int)) = some (.bl (decide (a = b))) := by
  unfold gEq
  rw [okT_ints, okT_ints, eqT_lst, eqTs_ints]
  rfl
theorem gNe_L {a b : List Int} : gNe (.lst (a.map T.int)) (.lst (b.map T.int)) = some (.bl (!decide (a = b))) := by
  unfold gNe
  rw [okT_ints, okT_ints, eqT_lst, eqTs_ints]
  rfl
theorem okS_ints {n : Nat} {a : List Int} (h : a.length < 1000000000) : okS (n + 1) (.lst (a.map T.int)) = true := by
  show (decide ((a.map T.int).length < 1000000000) && (a.map T.int).all (okS n)) = true
  rw [List.length_map, decide_eq_true h, Bool.true_and, List.all_eq_true]
  intro t ht
  obtain ⟨x, _, rfl⟩ := List.mem_map.mp ht
  cases n <;> rfl
def eL (c : List Int) : T := .lst (c.map T.int)
theorem alike_ints : ∀ (a b : List Int), PySem.W.alikeAll (toDs (a.map T.int)) (toDs (b.map T.int)) = true
  | [], b => by simp [toDs, PySem.W.alikeAll]
  | x :: a, [] => by simp [toDs, PySem.W.alikeAll]
  | x :: a, y :: b => by
    have := alike_ints a b
    simp [toDs, PySem.W.alikeAll, toD, PySem.W.alike, this]
theorem sorted_ok (L : List (List Int)) (h : L.length < 1000000) (h2 : ∀ c ∈ L, c.length < 1000000) : ∃ S : List T, gSortD [.lst (L.map eL)] = some (.lst S) ∧ okS 7 (.lst S) = true := by
  have g1 : (L.map eL).all okT = true := by
    rw [List.all_eq_true]
    intro t ht
    obtain ⟨c, _, rfl⟩ := List.mem_map.mp ht
    exact okT_ints
  have g2 : PySem.W.AllAlike (toDs (L.map eL)) := by
    rw [toDs_map]
    intro d hd d' hd'
    obtain ⟨t, ht, rfl⟩ := List.mem_map.mp hd
    obtain ⟨t', ht', rfl⟩ := List.mem_map.mp hd'
    obtain ⟨c, _, rfl⟩ := List.mem_map.mp ht
    obtain ⟨c', _, rfl⟩ := List.mem_map.mp ht'
    show PySem.W.alike (.list (toDs (c.map T.int))) (.list (toDs (c'.map T.int))) = true
    simp [PySem.W.alike, alike_ints]
  have g3 : PySem.W.Sortable (toDs (L.map eL)) := by
    rw [toDs_map]
    refine .inr fun d hd => ?_
    obtain ⟨t, ht, rfl⟩ := List.mem_map.mp hd
    obtain ⟨c, _, rfl⟩ := List.mem_map.mp ht
    exact ⟨fun z => (nomatch z), fun xs z => (nomatch z)⟩
  refine ⟨_, by unfold gSortD; simp only; rw [if_pos ⟨g1, g2, g3⟩], ?_⟩
  show (decide (((L.map eL).mergeSort (PySem.W.dataLe false toD)).length < 1000000000) && ((L.map eL).mergeSort (PySem.W.dataLe false toD)).all (okS 6)) = true
  rw [List.length_mergeSort, List.length_map, decide_eq_true (by omega), Bool.true_and, List.all_eq_true]
  intro t ht
  obtain ⟨c, hc, rfl⟩ := List.mem_map.mp ((List.mergeSort_perm _ _).mem_iff.mp ht)
  exact okS_ints (by have := h2 c hc; omega)
theorem cutA {c : List Int} {p : Nat} : cutT (c.map T.int) none (some (p : Int)) = (c.take p).map T.int := by
  rw [cutT_map]
  unfold cutT
  rw [HT.sIx_none, HT.sIx_nat, List.drop_zero, Nat.sub_zero, List.take_eq_take_iff.mpr]
  omega
theorem cutB {c : List Int} {p : Nat} : cutT (c.map T.int) (some (p : Int)) none = (c.drop p).map T.int := by
  rw [cutT_map]
  unfold cutT
  rw [HT.sIx_none, HT.sIx_nat]
  congr 1
  by_cases h : p ≤ c.length
  · rw [Nat.min_eq_left h]
    exact List.take_of_length_le (by simp)
  · rw [Nat.min_eq_right (by omega), List.drop_of_length_le (Nat.le_refl _), List.drop_of_length_le (by omega)]
    simp
theorem glue {c : List Int} {p : Nat} {d : Int} (h : p < c.length) : (List.map T.int (c.take p) ++ [T.int d]) ++ List.map T.int (c.drop (p + 1)) = List.map T.int (c.set p d) := by
  rw [List.set_eq_take_append_cons_drop, if_pos h, List.map_append, List.map_cons, List.append_assoc]
  rfl
theorem glue2 {c : List Int} {d : Int} : List.map T.int c ++ [T.int d] = List.map T.int (c ++ [d]) := by simp
theorem find_rng {p : Nat → Bool} {n i : Nat} (hi : i < n) (h0 : ∀ j, j < i → p j = false) (h1 : p i = true) : (List.range n).find? p = some i := by
  rw [List.find?_range_eq_some]
  exact ⟨h1, List.mem_range.mpr hi, fun j hj => by simp [h0 j hj]⟩
theorem find_rng0 {p : Nat → Bool} {n : Nat} (h0 : ∀ j, j < n → p j = false) : (List.range n).find? p = none := by
  rw [List.find?_eq_none]
  intro x hx
  rw [h0 x (List.mem_range.mp hx)]
  decide
theorem sl1 {c : List T} : cutT c none (some 1) = c.take 1 := by
  unfold cutT
  rw [HT.sIx_none, show ((1 : Int)) = ((1 : Nat) : Int) from rfl, HT.sIx_nat, List.drop_zero, Nat.sub_zero, List.take_eq_take_iff.mpr]
  omega
theorem okS_bool {b : Bool} {n : Nat} : okS n (.bl b) = true := by cases n <;> rfl
theorem nc0 : ((0 : Nat) : Int) = 0 := rfl
theorem atC {c : List Int} {k : Nat} (h : k < c.length) : atI (c.map T.int) (k : Int) = some (.int (c.getD k 0)) := iL_at h
theorem div_nat {n a : Nat} : ((n : Int).fdiv (a : Int)) = ((n / a : Nat) : Int) := by
  rw [Int.fdiv_eq_ediv_of_nonneg _ (by omega)]
  rfl
end LawP

/-! points, turns, borders of points: plain mathematics -/
namespace Hl
abbrev P := Rat × Rat
def cx (u v : P) : Rat := u.1 * v.2 - u.2 * v.1
def vc (a b : P) : P := (b.1 - a.1, b.2 - a.2)
def cr (a b c : P) : Rat := (b.1 - a.1) * (c.2 - a.2) - (b.2 - a.2) * (c.1 - a.1)
def lt (a b : P) : Prop := a.1 < b.1 ∨ a.1 = b.1 ∧ a.2 < b.2
instance (a b : P) : Decidable (lt a b) := inferInstanceAs (Decidable (_ ∨ _))
def lp (u : P) : Prop := 0 < u.1 ∨ u.1 = 0 ∧ 0 < u.2
def neg (a : P) : P := (-a.1, -a.2)
theorem pos_of_mul {x c : Rat} (hc : 0 < c) (h : 0 < x * c) : 0 < x := by
  apply Classical.byContradiction
  intro hn
  have h1 : 0 ≤ -x := by grind
  have h2 := Rat.mul_nonneg h1 (Rat.le_of_lt hc)
  grind
theorem nn_of_mul {x c : Rat} (hc : 0 < c) (h : 0 ≤ x * c) : 0 ≤ x := by
  apply Classical.byContradiction
  intro hn
  have h1 : 0 < -x := by grind
  have h2 := Rat.mul_pos h1 hc
  grind
theorem id1 (d1 d2 d3 : P) : cx d1 d3 * d2.1 = cx d1 d2 * d3.1 + cx d2 d3 * d1.1 := by unfold cx; grind
theorem id2 (d1 d2 d3 : P) : cx d1 d3 * d2.2 = cx d1 d2 * d3.2 + cx d2 d3 * d1.2 := by unfold cx; grind
theorem lp.nn {u : P} (h : lp u) : 0 ≤ u.1 := by
  rcases h with h | h
  · exact Rat.le_of_lt h
  · rw [h.1]; exact Rat.le_refl
theorem lp.up {u : P} (h : lp u) (h0 : u.1 ≤ 0) : u.1 = 0 ∧ 0 < u.2 := by
  rcases h with h | h
  · grind
  · exact h
theorem z_of {c d : Rat} (hd : 0 < d) (hc : 0 ≤ c) (h : d * c ≤ 0) : c ≤ 0 := by
  apply Classical.byContradiction
  intro hn
  have := Rat.mul_pos hd (show 0 < c by grind)
  grind
section
variable {d1 d2 d3 : P}
theorem t_nn (l1 : lp d1) (l2 : lp d2) (l3 : lp d3) (h1 : 0 ≤ cx d1 d2) (h2 : 0 ≤ cx d2 d3) : 0 ≤ cx d1 d3 := by
  rcases l2 with c | ⟨c0, c⟩
  · refine nn_of_mul c ?_
    rw [id1]
    have a1 := Rat.mul_nonneg h1 l3.nn
    have a2 := Rat.mul_nonneg h2 l1.nn
    grind
  · have e : d3.1 ≤ 0 := z_of c l3.nn (by unfold cx at h2; rw [c0] at h2; grind)
    obtain ⟨e1, e2⟩ := l3.up e
    have := Rat.mul_nonneg l1.nn (Rat.le_of_lt e2)
    unfold cx
    rw [e1]
    grind
theorem t_pn (l1 : lp d1) (l2 : lp d2) (l3 : lp d3) (h1 : 0 < cx d1 d2) (h2 : 0 ≤ cx d2 d3) : 0 < cx d1 d3 := by
  rcases l2 with c | ⟨c0, c⟩
  · refine pos_of_mul c ?_
    rw [id1]
    have a2 := Rat.mul_nonneg h2 l1.nn
    rcases l3 with q | ⟨q0, q⟩
    · have a1 := Rat.mul_pos h1 q
      grind
    · have b1 : 0 < d1.1 := by
        rcases l1 with r | ⟨r0, r⟩
        · exact r
        · unfold cx at h1
          rw [r0] at h1
          have := Rat.mul_pos r c
          grind
      have b2 : 0 < cx d2 d3 := by
        unfold cx
        rw [q0]
        have := Rat.mul_pos c q
        grind
      have := Rat.mul_pos b2 b1
      rw [q0]
      grind
  · have e : d3.1 ≤ 0 := z_of c l3.nn (by unfold cx at h2; rw [c0] at h2; grind)
    obtain ⟨e1, e2⟩ := l3.up e
    have b1 : 0 < d1.1 := by
      refine pos_of_mul c ?_
      unfold cx at h1
      rw [c0] at h1
      grind
    have := Rat.mul_pos b1 e2
    unfold cx
    rw [e1]
    grind
theorem t_np (l1 : lp d1) (l2 : lp d2) (l3 : lp d3) (h1 : 0 ≤ cx d1 d2) (h2 : 0 < cx d2 d3) : 0 < cx d1 d3 := by
  rcases l2 with c | ⟨c0, c⟩
  · refine pos_of_mul c ?_
    rw [id1]
    have a1 := Rat.mul_nonneg h1 l3.nn
    rcases l1 with r | ⟨r0, r⟩
    · have := Rat.mul_pos h2 r
      grind
    · unfold cx at h1
      rw [r0] at h1
      have := Rat.mul_pos r c
      grind
  · unfold cx at h2
    rw [c0] at h2
    have := Rat.mul_nonneg (Rat.le_of_lt c) l3.nn
    grind
end
theorem lt_lp {a b : P} : lt a b ↔ lp (vc a b) := by
  unfold lt lp vc
  constructor <;> intro h <;> rcases h with h | h <;> grind
theorem lt_tr {a b c : P} (h : lt a b) (k : lt b c) : lt a c := by
  unfold lt at *
  grind
theorem lt_ir {a : P} : ¬ lt a a := by unfold lt; grind
theorem lt_tri (a b : P) : lt a b ∨ a = b ∨ lt b a := by
  unfold lt
  rcases a with ⟨a, a'⟩
  rcases b with ⟨b, b'⟩
  simp only [Prod.mk.injEq]
  by_cases h : a = b
  · by_cases h' : a' = b'
    · exact .inr (.inl ⟨h, h'⟩)
    · grind
  · grind
theorem cr_vc (a b c : P) : cr a b c = cx (vc a b) (vc a c) := rfl
theorem cr_cy (a b c : P) : cr a b c = cr b c a := by unfold cr; grind
theorem cr_sw (a b c : P) : cr a b c = -cr b a c := by unfold cr; grind
theorem cr_aab (a b : P) : cr a a b = 0 := by unfold cr; grind
theorem cr_aba (a b : P) : cr a b a = 0 := by unfold cr; grind
theorem cr_abb (a b : P) : cr a b b = 0 := by unfold cr; grind
theorem cr_neg (a b c : P) : cr (neg a) (neg b) (neg c) = cr a b c := by unfold cr neg; grind
theorem lt_neg {a b : P} : lt (neg a) (neg b) ↔ lt b a := by unfold lt neg; grind
theorem neg_neg (a : P) : neg (neg a) = a := by unfold neg; simp
theorem neg_eq {a b : P} : neg a = neg b ↔ a = b := ⟨fun h => by have := congrArg neg h; simpa [neg_neg] using this, fun h => by rw [h]⟩
theorem cr4 (a b c d : P) : cr a b d = cx (vc a b) (vc b d) := by unfold cr cx vc; grind
theorem cr_in (a b d : P) : cr a b d = cx (vc a b) (vc b d) := by unfold cr cx vc; grind
structure Ord (R : P → P → Prop) : Prop where
  tr : ∀ {a b c : P}, R a b → R b c → R a c
  ir : ∀ {a : P}, ¬ R a a
  tri : ∀ (a b : P), R a b ∨ a = b ∨ R b a
  s1 : ∀ {b c p q : P}, R b c → R c p → cr b c p ≤ 0 → (q = b ∨ R b q) → 0 ≤ cr b c q → 0 ≤ cr b p q
  s2 : ∀ {b c p q : P}, R b c → R c p → 0 < cr b c p → R q c → 0 ≤ cr b c q → 0 ≤ cr c p q
  s3 : ∀ {a b c p : P}, R a b → R b c → R c p → 0 < cr a b c → 0 < cr b c p → 0 < cr a b p
  s4 : ∀ {a m u q : P}, R a m → R u m → (q = m ∨ R q m) → cr a m u = 0 → 0 ≤ cr a m q → 0 ≤ cr m u q → cr a m q = 0 ∧ cr m u q = 0
theorem cx_sw (u v : P) : cx u v = -cx v u := by unfold cx; grind
theorem ord_lt : Ord lt where
  tr := lt_tr
  ir := lt_ir
  tri := lt_tri
  s1 := by
    intro b c p q h1 h2 h3 h4 h5
    rcases h4 with rfl | h4
    · rw [cr_aba]; exact Rat.le_refl
    · have l1 := lt_lp.mp h1
      have l2 := lt_lp.mp (lt_tr h1 h2)
      have l3 := lt_lp.mp h4
      rw [cr_vc] at h3 h5 ⊢
      exact t_nn l2 l1 l3 (by rw [cx_sw]; grind) h5
  s2 := by
    intro b c p q h1 h2 h3 h4 h5
    have l1 := lt_lp.mp h4
    have l2 := lt_lp.mp h1
    have l3 := lt_lp.mp h2
    have a1 : 0 ≤ cx (vc q c) (vc b c) := by unfold cr at h5; unfold cx vc; grind
    have a2 : 0 < cx (vc b c) (vc c p) := by rw [← cr_in]; exact h3
    have := t_np l1 l2 l3 a1 a2
    have e : cr c p q = cx (vc q c) (vc c p) := by unfold cr cx vc; grind
    rw [e]
    exact Rat.le_of_lt this
  s3 := by
    intro a b c p h1 h2 h3 h4 h5
    have l1 := lt_lp.mp h1
    have l2 := lt_lp.mp h2
    have l3 := lt_lp.mp h3
    rw [cr_in] at h4 h5 ⊢
    have := t_pn l1 l2 l3 h4 (Rat.le_of_lt h5)
    have e : cx (vc a b) (vc b p) = cx (vc a b) (vc b c) + cx (vc a b) (vc c p) := by unfold cx vc; grind
    rw [e]
    grind
  s4 := by
    intro a m u q h1 h2 h3 h4 h5 h6
    rcases h3 with rfl | h3
    · exact ⟨cr_abb _ _, cr_aba _ _⟩
    · have ld := lt_lp.mp h1
      have lf := lt_lp.mp h2
      have lg := lt_lp.mp h3
      have e1 : cr a m u = - cx (vc a m) (vc u m) := by unfold cr cx vc; grind
      have e2 : cr a m q = cx (vc q m) (vc a m) := by unfold cr cx vc; grind
      have e3 : cr m u q = cx (vc u m) (vc q m) := by unfold cr cx vc; grind
      rw [e1] at h4
      rw [e2] at h5
      rw [e3] at h6
      rw [e2, e3]
      have z : cx (vc a m) (vc u m) = 0 := by grind
      have z' : cx (vc u m) (vc a m) = 0 := by rw [cx_sw, z]; simp
      have k1 := t_nn lg ld lf h5 (by rw [z]; exact Rat.le_refl)
      have k2 : cx (vc u m) (vc q m) = 0 := by rw [cx_sw] at k1; grind
      have k3 := t_nn ld lf lg (by rw [z]; exact Rat.le_refl) h6
      rw [cx_sw] at k3
      exact ⟨by grind, k2⟩
theorem ord_gt : Ord (fun a b => lt b a) where
  tr := fun h k => lt_tr k h
  ir := lt_ir
  tri := fun a b => by rcases lt_tri a b with h | h | h <;> simp [h]
  s1 := by
    intro b c p q h1 h2 h3 h4 h5
    rw [← cr_neg] at h3 h5 ⊢
    exact ord_lt.s1 (lt_neg.mpr h1) (lt_neg.mpr h2) h3 (by rcases h4 with h | h; exact .inl (by rw [h]); exact .inr (lt_neg.mpr h)) h5
  s2 := by
    intro b c p q h1 h2 h3 h4 h5
    rw [← cr_neg] at h3 h5 ⊢
    exact ord_lt.s2 (lt_neg.mpr h1) (lt_neg.mpr h2) h3 (lt_neg.mpr h4) h5
  s3 := by
    intro a b c p h1 h2 h3 h4 h5
    rw [← cr_neg] at h4 h5 ⊢
    exact ord_lt.s3 (lt_neg.mpr h1) (lt_neg.mpr h2) (lt_neg.mpr h3) h4 h5
  s4 := by
    intro a m u q h1 h2 h3 h4 h5 h6
    rw [← cr_neg] at h4 h5 h6
    have := ord_lt.s4 (lt_neg.mpr h1) (lt_neg.mpr h2) (by rcases h3 with h | h; exact .inl (by rw [h]); exact .inr (lt_neg.mpr h)) h4 h5 h6
    rwa [cr_neg, cr_neg] at this
theorem s5 {a x b e : P} (h1 : lt a x) (h2 : lt x b) (h3 : lt x e) (k1 : 0 ≤ cr e x a) (k2 : 0 ≤ cr e x b) (k3 : 0 < cr a x b) : False := by
  have l1 := lt_lp.mp h3
  have l2 := lt_lp.mp h1
  have l3 := lt_lp.mp h2
  have a1 : 0 ≤ cx (vc x e) (vc a x) := by unfold cr at k1; unfold cx vc; grind
  have a2 : 0 < cx (vc a x) (vc x b) := by rw [← cr_in]; exact k3
  have := t_np l1 l2 l3 a1 a2
  unfold cr at k2
  unfold cx vc at this
  grind
/-! borders -/
def push (p : P) : List P → List P
  | c :: b :: r => if 0 < cr b c p then p :: c :: b :: r else push p (b :: r)
  | l => p :: l
def Tn : List P → Prop
  | c :: b :: a :: l => 0 < cr a b c ∧ Tn (b :: a :: l)
  | _ => True
def Sp (S : List P) : List P → Prop
  | c :: b :: l => (∀ q ∈ S, 0 ≤ cr b c q) ∧ Sp S (b :: l)
  | _ => True
section
variable {R : P → P → Prop}
theorem sp_ext (O : Ord R) {S : List P} {p : P} : ∀ {c b : P} {l : List P}, (c :: b :: l).Pairwise (fun x y => R y x) → Tn (c :: b :: l) → Sp S (c :: b :: l) → R c p → 0 < cr b c p → Sp (p :: S) (c :: b :: l)
  | c, b, [], hd, ht, hs, hp, h0 => by
    refine ⟨fun q hq => ?_, trivial⟩
    rcases List.mem_cons.mp hq with rfl | hq
    · exact Rat.le_of_lt h0
    · exact hs.1 q hq
  | c, b, a :: l, hd, ht, hs, hp, h0 => by
    have r1 : R b c := (List.pairwise_cons.mp hd).1 b (by simp)
    have hd' := (List.pairwise_cons.mp hd).2
    have r2 : R a b := (List.pairwise_cons.mp hd').1 a (by simp)
    refine ⟨fun q hq => ?_, sp_ext O hd' ht.2 hs.2 (O.tr r1 hp) (O.s3 r2 r1 hp ht.1 h0)⟩
    rcases List.mem_cons.mp hq with rfl | hq
    · exact Rat.le_of_lt h0
    · exact hs.1 q hq
theorem push_ok (O : Ord R) {S : List P} {p : P} : ∀ {c : P} {r : List P}, (c :: r).Pairwise (fun x y => R y x) → Tn (c :: r) → Sp S (c :: r) → (∀ x ∈ c :: r, x ∈ S) → (∀ x ∈ S, R x p) →
    (∀ z, (c :: r).getLast? = some z → ∀ q ∈ S, q = z ∨ R z q) → (∀ q ∈ S, q = c ∨ R c q → 0 ≤ cr c p q) →
    ∃ t, push p (c :: r) = p :: t ∧ (p :: t).Pairwise (fun x y => R y x) ∧ Tn (p :: t) ∧ Sp (p :: S) (p :: t) ∧ (∀ x ∈ t, x ∈ S) ∧ t ≠ [] ∧ t.getLast? = (c :: r).getLast?
  | c, [], hd, ht, hs, hm, hp, hl, hH => by
    refine ⟨[c], rfl, ?_, trivial, ⟨fun q hq => ?_, trivial⟩, hm, by simp, rfl⟩
    · exact List.pairwise_cons.mpr ⟨fun x hx => by rw [List.mem_singleton.mp hx]; exact hp c (hm c (by simp)), hd⟩
    · rcases List.mem_cons.mp hq with rfl | hq
      · rw [cr_abb]; exact Rat.le_refl
      · exact hH q hq (hl c rfl q hq)
  | c, b :: r, hd, ht, hs, hm, hp, hl, hH => by
    have r1 : R b c := (List.pairwise_cons.mp hd).1 b (by simp)
    have hc : R c p := hp c (hm c (by simp))
    unfold push
    by_cases h0 : 0 < cr b c p
    · rw [if_pos h0]
      refine ⟨c :: b :: r, rfl, List.pairwise_cons.mpr ⟨fun x hx => hp x (hm x hx), hd⟩, ⟨h0, ht⟩, ⟨fun q hq => ?_, sp_ext O hd ht hs hc h0⟩, hm, by simp, rfl⟩
      rcases List.mem_cons.mp hq with rfl | hq
      · rw [cr_abb]; exact Rat.le_refl
      · rcases O.tri q c with h | h | h
        · exact O.s2 r1 hc h0 h (hs.1 q hq)
        · exact hH q hq (.inl h)
        · exact hH q hq (.inr h)
    · rw [if_neg h0]
      have ht' : Tn (b :: r) := by
        cases r with
        | nil => trivial
        | cons a l => exact ht.2
      obtain ⟨t, e, k⟩ := push_ok O (c := b) (r := r) (List.pairwise_cons.mp hd).2 ht' hs.2 (fun x hx => hm x (List.mem_cons_of_mem _ hx)) hp (fun z hz => hl z (by rw [List.getLast?_cons_cons]; exact hz))
        (fun q hq h => O.s1 r1 hc (by grind) h (hs.1 q hq))
      refine ⟨t, e, ?_⟩
      rw [List.getLast?_cons_cons]
      exact k
structure Inv (R : P → P → Prop) (S r : List P) (a z : P) : Prop where
  hd : r.Pairwise (fun x y => R y x)
  tn : Tn r
  sp : Sp S r
  mem : ∀ x ∈ r, x ∈ S
  bot : ∀ q ∈ S, q = a ∨ R a q
  top : ∀ q ∈ S, q = z ∨ R q z
  lst : r.getLast? = some a
  fst : r.head? = some z
theorem inv_step (O : Ord R) {S r : List P} {a z p : P} (I : Inv R S r a z) (hp : ∀ x ∈ S, R x p) : Inv R (p :: S) (push p r) a p ∧ 2 ≤ (push p r).length := by
  obtain ⟨c, t, rfl⟩ : ∃ c t, r = c :: t := by
    cases r with
    | nil => have := I.lst; simp at this
    | cons c t => exact ⟨c, t, rfl⟩
  have hz : c = z := by simpa using I.fst
  subst hz
  obtain ⟨t', e, k1, k2, k3, k4, k5, k6⟩ := push_ok O I.hd I.tn I.sp I.mem hp (fun w hw => by rw [I.lst] at hw; cases hw; exact I.bot) (fun q hq h => by
    rcases I.top q hq with h' | h'
    · rw [h', cr_aba]; exact Rat.le_refl
    · rcases h with h | h
      · rw [h, cr_aba]; exact Rat.le_refl
      · exact absurd (O.tr h h') O.ir)
  have hpa : R a p := hp a (I.mem a (List.mem_of_getLast? I.lst))
  rw [e]
  refine ⟨⟨k1, k2, k3, fun x hx => ?_, fun q hq => ?_, fun q hq => ?_, ?_, rfl⟩, ?_⟩
  · rcases List.mem_cons.mp hx with rfl | hx
    · simp
    · exact List.mem_cons_of_mem _ (k4 x hx)
  · rcases List.mem_cons.mp hq with rfl | hq
    · exact .inr hpa
    · exact I.bot q hq
  · rcases List.mem_cons.mp hq with rfl | hq
    · exact .inl rfl
    · exact .inr (hp q hq)
  · cases t' with
    | nil => exact absurd rfl k5
    | cons x y => rw [List.getLast?_cons_cons, k6]; exact I.lst
  · cases t' with
    | nil => exact absurd rfl k5
    | cons x y => simp
theorem fold_ok (O : Ord R) {a : P} : ∀ {l S r : List P} {z : P}, Inv R S r a z → l.Pairwise R → (∀ x ∈ S, ∀ y ∈ l, R x y) → ∃ z', Inv R (l.reverse ++ S) (l.foldl (fun r p => push p r) r) a z' ∧ (l ≠ [] → l.getLast? = some z' ∧ 2 ≤ (l.foldl (fun r p => push p r) r).length)
  | [], S, r, z, I, _, _ => ⟨z, by simpa using I, fun h => absurd rfl h⟩
  | p :: l, S, r, z, I, hp, hS => by
    obtain ⟨h1, h2⟩ := List.pairwise_cons.mp hp
    obtain ⟨I', hl⟩ := inv_step O I (fun x hx => hS x hx p (by simp))
    obtain ⟨z', I2, k⟩ := fold_ok O (l := l) I' h2 (fun x hx y hy => by
      rcases List.mem_cons.mp hx with rfl | hx
      · exact h1 y hy
      · exact hS x hx y (List.mem_cons_of_mem _ hy))
    refine ⟨z', by simpa using I2, fun _ => ?_⟩
    cases l with
    | nil =>
      refine ⟨?_, hl⟩
      have e1 := I2.fst
      have e2 := I'.fst
      simp only [List.foldl_nil] at e1
      rw [e2] at e1
      cases e1
      rfl
    | cons x y =>
      rw [List.getLast?_cons_cons]
      exact k (by simp)
end
def chain (l : List P) : List P := (l.foldl (fun r p => push p r) []).reverse
abbrev g (l : List P) (i : Nat) : P := l.getD i (0, 0)
theorem g_rev {l : List P} {i : Nat} (h : i < l.length) : g l.reverse i = g l (l.length - 1 - i) := by
  unfold g
  rw [List.getD_eq_getElem?_getD, List.getElem?_reverse h, List.getD_eq_getElem?_getD]
theorem g_mem {l : List P} {i : Nat} (h : i < l.length) : g l i ∈ l := by
  unfold g
  rw [List.getD_eq_getElem?_getD, List.getElem?_eq_getElem h]
  exact List.getElem_mem h
theorem mem_g {l : List P} {x : P} (h : x ∈ l) : ∃ i, i < l.length ∧ x = g l i := by
  obtain ⟨i, hi, e⟩ := List.getElem_of_mem h
  exact ⟨i, hi, by unfold g; rw [List.getD_eq_getElem?_getD, List.getElem?_eq_getElem hi, e]; rfl⟩
theorem g_s {x : P} {l : List P} {i : Nat} : g (x :: l) (i + 1) = g l i := rfl
theorem g_0 {x : P} {l : List P} : g (x :: l) 0 = x := rfl
theorem Tn.ix : ∀ {r : List P}, Tn r → ∀ i, i + 2 < r.length → 0 < cr (g r (i + 2)) (g r (i + 1)) (g r i)
  | [], _, i, h => by simp at h
  | [_], _, i, h => by simp at h
  | [_, _], _, i, h => by simp only [List.length_cons, List.length_nil] at h; omega
  | c :: b :: a :: l, t, 0, h => t.1
  | c :: b :: a :: l, t, i + 1, h => Tn.ix t.2 i (by simp at h ⊢; omega)
theorem Sp.ix {S : List P} : ∀ {r : List P}, Sp S r → ∀ i, i + 1 < r.length → ∀ q ∈ S, 0 ≤ cr (g r (i + 1)) (g r i) q
  | [], _, i, h => by simp at h
  | [_], _, i, h => by simp at h
  | c :: b :: l, t, 0, h => t.1
  | c :: b :: l, t, i + 1, h => Sp.ix t.2 i (by simp at h ⊢; omega)
structure Lw (R : P → P → Prop) (S l : List P) (a z : P) : Prop where
  two : 2 ≤ l.length
  sub : ∀ x ∈ l, x ∈ S
  asc : ∀ i j, i < j → j < l.length → R (g l i) (g l j)
  tn : ∀ i, i + 2 < l.length → 0 < cr (g l i) (g l (i + 1)) (g l (i + 2))
  sp : ∀ i, i + 1 < l.length → ∀ q ∈ S, 0 ≤ cr (g l i) (g l (i + 1)) q
  fst : g l 0 = a
  lst : g l (l.length - 1) = z
  bot : ∀ q ∈ S, q = a ∨ R a q
  top : ∀ q ∈ S, q = z ∨ R q z
theorem pw_g {R : P → P → Prop} : ∀ {l : List P}, l.Pairwise R → ∀ i j, i < j → j < l.length → R (g l i) (g l j)
  | [], _, i, j, h, k => by simp at k
  | x :: l, hp, 0, j + 1, h, k => (List.pairwise_cons.mp hp).1 _ (g_mem (by simpa using k))
  | x :: l, hp, i + 1, j + 1, h, k => pw_g (List.pairwise_cons.mp hp).2 i j (by omega) (by simpa using k)
theorem chain_ok {R : P → P → Prop} (O : Ord R) {a z : P} {l : List P} (hp : (a :: l).Pairwise R) (hn : l ≠ []) (hz : l.getLast? = some z) : Lw R (a :: l) (chain (a :: l)) a z := by
  obtain ⟨h1, h2⟩ := List.pairwise_cons.mp hp
  have I0 : Inv R [a] [a] a a := ⟨by simp, trivial, trivial, by simp, by simp, by simp, rfl, rfl⟩
  obtain ⟨z', I, k⟩ := fold_ok O (l := l) I0 h2 (fun x hx y hy => by rw [List.mem_singleton.mp hx]; exact h1 y hy)
  obtain ⟨k1, k2⟩ := k hn
  rw [hz] at k1
  cases k1
  have e : chain (a :: l) = (l.foldl (fun r p => push p r) [a]).reverse := rfl
  rw [e]
  generalize l.foldl (fun r p => push p r) [a] = r at *
  have mm : ∀ x, x ∈ l.reverse ++ [a] ↔ x ∈ a :: l := fun x => by simp [or_comm]
  refine ⟨by simpa using k2, fun x hx => (mm x).mp (I.mem x (by simpa using hx)), ?_, ?_, ?_, ?_, ?_, fun q hq => I.bot q ((mm q).mpr hq), fun q hq => I.top q ((mm q).mpr hq)⟩
  · intro i j hij hj
    rw [List.length_reverse] at hj
    rw [g_rev (by omega), g_rev hj]
    exact pw_g I.hd _ _ (by omega) (by omega)
  · intro i hi
    rw [List.length_reverse] at hi
    rw [g_rev (by omega), g_rev (by omega), g_rev hi]
    have := I.tn.ix (r.length - 1 - (i + 2)) (by omega)
    rw [show r.length - 1 - (i + 2) + 2 = r.length - 1 - i by omega, show r.length - 1 - (i + 2) + 1 = r.length - 1 - (i + 1) by omega] at this
    exact this
  · intro i hi q hq
    rw [List.length_reverse] at hi
    rw [g_rev (by omega), g_rev hi]
    have := I.sp.ix (r.length - 1 - (i + 1)) (by omega) q ((mm q).mpr hq)
    rw [show r.length - 1 - (i + 1) + 1 = r.length - 1 - i by omega] at this
    exact this
  · rw [g_rev (by omega)]
    have := I.lst
    rw [List.getLast?_eq_getElem?] at this
    unfold g
    rw [List.getD_eq_getElem?_getD, show r.length - 1 - 0 = r.length - 1 by omega, this]
    rfl
  · rw [g_rev (by rw [List.length_reverse]; omega), List.length_reverse, show r.length - 1 - (r.length - 1) = 0 by omega]
    have := I.fst
    cases r with
    | nil => simp at this
    | cons x y => simpa using this
end Hl

/-! hulls: plain mathematics -/
namespace Hl
def cy (h : List P) (k : Nat) : P := g h (k % h.length)
theorem cy_lt {h : List P} {k : Nat} (hk : k < h.length) : cy h k = g h k := by unfold cy; rw [Nat.mod_eq_of_lt hk]
theorem cy_mod (h : List P) (k j : Nat) : cy h (k % h.length + j) = cy h (k + j) := by unfold cy; rw [Nat.mod_add_mod]
theorem cy_per (h : List P) (k : Nat) : cy h (k + h.length) = cy h k := by unfold cy; rw [Nat.add_mod_right]
theorem cy_mem {h : List P} (hn : h ≠ []) (k : Nat) : cy h k ∈ h := g_mem (Nat.mod_lt _ (List.length_pos_iff.mpr hn))
structure Hu (S h : List P) : Prop where
  ne : h ≠ []
  nd : h.Nodup
  sub : ∀ p ∈ h, p ∈ S
  fst : ∀ q ∈ S, q = g h 0 ∨ lt (g h 0) q
  one : h.length = 1 → ∀ q ∈ S, q = g h 0
  two : h.length = 2 → ∀ q ∈ S, q = g h 1 ∨ lt q (g h 1)
  sp : ∀ k, ∀ q ∈ S, 0 ≤ cr (cy h k) (cy h (k + 1)) q
  tn : 3 ≤ h.length → ∀ k, 0 < cr (cy h k) (cy h (k + 1)) (cy h (k + 2))
theorem junction {R R' : P → P → Prop} (O : Ord R) (hR : ∀ a b, R' a b → R b a) {S S' A B : List P} {x y w : P} (hS : ∀ q, q ∈ S ↔ q ∈ S') (hA : Lw R S A x y) (hB : Lw R' S' B y w) :
    0 < cr (g A (A.length - 2)) y (g B 1) ∨ (A.length = 2 ∧ B.length = 2) := by
  have a2 := hA.two
  have b2 := hB.two
  have eA : g A (A.length - 2 + 1) = y := by rw [show A.length - 2 + 1 = A.length - 1 by omega]; exact hA.lst
  have eB : g B 0 = y := hB.fst
  have r1 : R (g A (A.length - 2)) y := by have := hA.asc (A.length - 2) (A.length - 2 + 1) (by omega) (by omega); rwa [eA] at this
  have r2 : R (g B 1) y := by have := hR _ _ (hB.asc 0 1 (by omega) (by omega)); rwa [eB] at this
  have uB : g B 1 ∈ S := (hS _).mpr (hB.sub _ (g_mem (by omega)))
  have s0 := hA.sp (A.length - 2) (by omega) _ uB
  rw [eA] at s0
  by_cases hp : 0 < cr (g A (A.length - 2)) y (g B 1)
  · exact .inl hp
  · have z : cr (g A (A.length - 2)) y (g B 1) = 0 := by grind
    have all : ∀ q ∈ S, cr (g A (A.length - 2)) y q = 0 ∧ cr y (g B 1) q = 0 := fun q hq => by
      have k1 := hA.sp (A.length - 2) (by omega) q hq
      have k2 := hB.sp 0 (by omega) q ((hS q).mp hq)
      rw [eA] at k1
      rw [eB] at k2
      exact O.s4 r1 r2 (hA.top q hq) z k1 k2
    refine .inr ⟨?_, ?_⟩
    · by_cases h3 : A.length = 2
      · exact h3
      · have t := hA.tn (A.length - 3) (by omega)
        rw [show A.length - 3 + 1 = A.length - 2 by omega, show A.length - 3 + 2 = A.length - 2 + 1 by omega, eA, cr_cy, (all _ (hA.sub _ (g_mem (by omega)))).1] at t
        exact absurd t (by decide)
    · by_cases h3 : B.length = 2
      · exact h3
      · have t := hB.tn 0 (by omega)
        rw [eB, (all _ ((hS _).mpr (hB.sub _ (g_mem (by omega))))).2] at t
        exact absurd t (by decide)
def hullA (s : List P) : List P := (chain s).dropLast ++ (chain s.reverse).dropLast
theorem g_dl {l : List P} {i : Nat} (h : i + 1 < l.length) : g l.dropLast i = g l i := by
  unfold g
  rw [List.dropLast_eq_take, List.getD_eq_getElem?_getD, List.getElem?_take, if_pos (by omega), List.getD_eq_getElem?_getD]
theorem g_apl {l m : List P} {i : Nat} (h : i < l.length) : g (l ++ m) i = g l i := by
  unfold g
  rw [List.getD_eq_getElem?_getD, List.getElem?_append_left h, List.getD_eq_getElem?_getD]
theorem g_apr {l m : List P} {i : Nat} : g (l ++ m) (l.length + i) = g m i := by
  unfold g
  rw [List.getD_eq_getElem?_getD, List.getElem?_append_right (by omega), List.getD_eq_getElem?_getD, Nat.add_sub_cancel_left]
theorem nd_of {R : P → P → Prop} (hi : ∀ a, ¬ R a a) {l : List P} (h : ∀ i j, i < j → j < l.length → R (g l i) (g l j)) : l.Nodup := by
  refine List.pairwise_iff_getElem.mpr fun i j hi' hj hij e => ?_
  have := h i j hij hj
  unfold g at this
  rw [List.getD_eq_getElem?_getD, List.getD_eq_getElem?_getD, List.getElem?_eq_getElem hi', List.getElem?_eq_getElem hj, e] at this
  exact hi _ this
theorem hull_two {S S' A B : List P} {a z : P} (hS : ∀ q, q ∈ S ↔ q ∈ S') (hA : Lw lt S A a z) (hB : Lw (fun a b => lt b a) S' B z a) : Hu S (A.dropLast ++ B.dropLast) := by
  have a2 := hA.two
  have b2 := hB.two
  generalize hh : A.dropLast ++ B.dropLast = h
  have lA : A.dropLast.length = A.length - 1 := List.length_dropLast
  have lB : B.dropLast.length = B.length - 1 := List.length_dropLast
  have hN : h.length = A.length - 1 + (B.length - 1) := by rw [← hh, List.length_append, lA, lB]
  have hm : ∀ j, j < B.length - 1 → g h (A.length - 1 + j) = g B j := fun j hj => by rw [← hh, ← lA, g_apr, g_dl (by omega)]
  have e1 : ∀ i, i ≤ A.length - 1 → cy h i = g A i := fun i hi => by
    by_cases hi' : i < A.length - 1
    · rw [cy_lt (by omega), ← hh, g_apl (by omega), g_dl (by omega)]
    · have : i = A.length - 1 + 0 := by omega
      subst this
      rw [cy_lt (by omega), hm 0 (by omega), hB.fst, Nat.add_zero, hA.lst]
  have e2 : ∀ j, j ≤ B.length - 1 → cy h (A.length - 1 + j) = g B j := fun j hj => by
    by_cases hj' : j < B.length - 1
    · rw [cy_lt (by omega), hm j hj']
    · have e : A.length - 1 + j = 0 + h.length := by omega
      rw [e, cy_per, e1 0 (by omega), hA.fst, show j = B.length - 1 by omega, hB.lst]
  have g0 : g h 0 = a := by rw [← cy_lt (by omega), e1 0 (by omega), hA.fst]
  have nA : A.Nodup := nd_of (fun a => lt_ir) hA.asc
  have nB : B.Nodup := nd_of (R := fun a b => lt b a) (fun a => lt_ir) hB.asc
  refine ⟨by intro e; rw [e] at hN; simp at hN; omega, ?_, ?_, ?_, ?_, ?_, ?_, ?_⟩
  · rw [← hh, List.nodup_append]
    refine ⟨(List.dropLast_sublist A).nodup nA, (List.dropLast_sublist B).nodup nB, ?_⟩
    intro x hx y hy e
    obtain ⟨i, hi, ex⟩ := mem_g hx
    obtain ⟨j, hj, ey⟩ := mem_g hy
    rw [lA] at hi
    rw [lB] at hj
    rw [g_dl (by omega)] at ex ey
    subst e
    by_cases i0 : i = 0
    · have : lt (g B (B.length - 1)) (g B j) := hB.asc j (B.length - 1) (by omega) (by omega)
      rw [hB.lst, ← ey, ex, i0, hA.fst] at this
      exact lt_ir this
    · by_cases j0 : j = 0
      · have := hA.asc i (A.length - 1) (by omega) (by omega)
        rw [hA.lst, ← ex, ey, j0, hB.fst] at this
        exact lt_ir this
      · have r1 := hA.asc (i - 1) i (by omega) (by omega)
        have r2 := hA.asc i (i + 1) (by omega) (by omega)
        have r3 : lt (g B j) (g B (j - 1)) := hB.asc (j - 1) j (by omega) (by omega)
        have t := hA.tn (i - 1) (by omega)
        have k1 := hB.sp (j - 1) (by omega) (g A (i - 1)) ((hS _).mp (hA.sub _ (g_mem (by omega))))
        have k2 := hB.sp (j - 1) (by omega) (g A (i + 1)) ((hS _).mp (hA.sub _ (g_mem (by omega))))
        rw [show i - 1 + 1 = i by omega, show i - 1 + 2 = i + 1 by omega] at t
        rw [show j - 1 + 1 = j by omega, ← ey] at k1 k2
        rw [← ex] at r1 r2 t
        rw [← ey] at r3
        exact s5 r1 r2 r3 k1 k2 t
  · intro p hp
    rw [← hh, List.mem_append] at hp
    rcases hp with hp | hp
    · exact hA.sub p ((List.dropLast_sublist A).subset hp)
    · exact (hS p).mpr (hB.sub p ((List.dropLast_sublist B).subset hp))
  · rw [g0]; exact hA.bot
  · intro h1; omega
  · intro h2 q hq
    have e : g h 1 = z := by
      rw [← cy_lt (by omega), e1 1 (by omega), show 1 = A.length - 1 by omega, hA.lst]
    rw [e]
    exact hA.top q hq
  · intro k q hq
    have key : ∀ k, k < h.length → 0 ≤ cr (cy h k) (cy h (k + 1)) q := fun k hk => by
      by_cases c : k < A.length - 1
      · rw [e1 k (by omega), e1 (k + 1) (by omega)]
        exact hA.sp k (by omega) q hq
      · have e := e2 (k - (A.length - 1)) (by omega)
        have e' := e2 (k + 1 - (A.length - 1)) (by omega)
        rw [show A.length - 1 + (k - (A.length - 1)) = k by omega] at e
        rw [show A.length - 1 + (k + 1 - (A.length - 1)) = k + 1 by omega] at e'
        rw [e, e', show k + 1 - (A.length - 1) = k - (A.length - 1) + 1 by omega]
        exact hB.sp _ (by omega) q ((hS q).mp hq)
    have := key (k % h.length) (Nat.mod_lt _ (by omega))
    have z0 := cy_mod h k 0
    rw [Nat.add_zero, Nat.add_zero] at z0
    rw [cy_mod, z0] at this
    exact this
  · intro h3 k
    have key : ∀ k, k < h.length → 0 < cr (cy h k) (cy h (k + 1)) (cy h (k + 2)) := fun k hk => by
      by_cases c1 : k + 2 ≤ A.length - 1
      · rw [e1 k (by omega), e1 (k + 1) (by omega), e1 (k + 2) (by omega)]
        exact hA.tn k (by omega)
      · by_cases c2 : k + 1 = A.length - 1
        · rw [e1 k (by omega), e1 (k + 1) (by omega), show k + 2 = A.length - 1 + 1 by omega, e2 1 (by omega), c2, hA.lst, show k = A.length - 2 by omega]
          rcases junction ord_lt (fun a b h => h) hS hA hB with h | h
          · exact h
          · omega
        · have e := e2 (k - (A.length - 1)) (by omega)
          have e' := e2 (k + 1 - (A.length - 1)) (by omega)
          rw [show A.length - 1 + (k - (A.length - 1)) = k by omega] at e
          rw [show A.length - 1 + (k + 1 - (A.length - 1)) = k + 1 by omega] at e'
          by_cases c3 : k + 2 ≤ h.length
          · have e'' := e2 (k + 2 - (A.length - 1)) (by omega)
            rw [show A.length - 1 + (k + 2 - (A.length - 1)) = k + 2 by omega] at e''
            rw [e, e', e'', show k + 1 - (A.length - 1) = k - (A.length - 1) + 1 by omega, show k + 2 - (A.length - 1) = k - (A.length - 1) + 2 by omega]
            exact hB.tn _ (by omega)
          · have e'' : cy h (k + 2) = g A 1 := by
              rw [show k + 2 = 1 + h.length by omega, cy_per, e1 1 (by omega)]
            rw [e, e', e'', show k - (A.length - 1) = B.length - 2 by omega, show k + 1 - (A.length - 1) = B.length - 1 by omega, hB.lst]
            rcases junction ord_gt (fun a b h => h) (fun q => (hS q).symm) hB hA with h | h
            · exact h
            · omega
    have := key (k % h.length) (Nat.mod_lt _ (by omega))
    have z0 := cy_mod h k 0
    rw [Nat.add_zero, Nat.add_zero] at z0
    rw [cy_mod, cy_mod, z0] at this
    exact this
theorem hullA_ok {s : List P} (hp : s.Pairwise lt) (hl : 2 ≤ s.length) : Hu s (hullA s) := by
  obtain ⟨a, l, rfl⟩ : ∃ a l, s = a :: l := by
    cases s with
    | nil => simp at hl
    | cons a l => exact ⟨a, l, rfl⟩
  have hn : l ≠ [] := by intro e; rw [e] at hl; simp at hl
  obtain ⟨l', z, rfl⟩ : ∃ l' z, l = l' ++ [z] := ⟨l.dropLast, l.getLast hn, (List.dropLast_concat_getLast hn).symm⟩
  have hA := chain_ok (z := z) ord_lt hp hn (by simp)
  have er : (a :: (l' ++ [z])).reverse = z :: (l'.reverse ++ [a]) := by simp
  have hB := chain_ok (R := fun a b => lt b a) ord_gt (a := z) (z := a) (l := l'.reverse ++ [a]) (by rw [← er, List.pairwise_reverse]; exact hp) (by simp) (by simp)
  rw [← er] at hB
  exact hull_two (fun q => List.mem_reverse.symm) hA hB
theorem hull_one (p : P) : Hu [p] [p] := by
  have e : ∀ k, cy [p] k = p := fun k => by unfold cy; simp [Nat.mod_one]
  refine ⟨by simp, by simp, fun q h => h, by simp, by simp, by simp, fun k q hq => ?_, by simp⟩
  rw [e, e, cr_aab]
  exact Rat.le_refl
/-- what the program tells -/
def hull (s : List P) : List P := if s.length < 2 then s else hullA s
theorem hull_ok {s : List P} (hp : s.Pairwise lt) (hn : s ≠ []) : Hu s (hull s) := by
  unfold hull
  split
  · rename_i h
    match s, hn, h with
    | [p], _, _ => exact hull_one p
    | _ :: _ :: _, _, h => simp only [List.length_cons] at h; omega
  · exact hullA_ok hp (by omega)
end Hl

/-! points within, corners: plain mathematics -/
namespace Hl
def Cv (X : List P) (q : P) : Prop := ∃ a b c, a ∈ X ∧ b ∈ X ∧ c ∈ X ∧ ∃ r s t : Rat, 0 ≤ r ∧ 0 ≤ s ∧ 0 ≤ t ∧ r + s + t = 1 ∧ q.1 = r * a.1 + s * b.1 + t * c.1 ∧ q.2 = r * a.2 + s * b.2 + t * c.2
def Box (a b q : P) : Prop := (¬(q.1 < a.1 ∧ q.1 < b.1) ∧ ¬(a.1 < q.1 ∧ b.1 < q.1)) ∧ ¬(q.2 < a.2 ∧ q.2 < b.2) ∧ ¬(a.2 < q.2 ∧ b.2 < q.2)
def On (a b q : P) : Prop := cr a b q = 0 ∧ Box a b q
def Tri (a b c q : P) : Prop := cr a b c ≠ 0 ∧ ((0 ≤ cr a b q ∧ 0 ≤ cr b c q ∧ 0 ≤ cr c a q) ∨ (cr a b q ≤ 0 ∧ cr b c q ≤ 0 ∧ cr c a q ≤ 0))
def In (X : List P) (q : P) : Prop := (∃ a ∈ X, ∃ b ∈ X, On a b q) ∨ ∃ a ∈ X, ∃ b ∈ X, ∃ c ∈ X, Tri a b c q
theorem In.mono {X Y : List P} {q : P} (h : In X q) (k : ∀ x ∈ X, x ∈ Y) : In Y q := by
  rcases h with ⟨a, ha, b, hb, h⟩ | ⟨a, ha, b, hb, c, hc, h⟩
  · exact .inl ⟨a, k a ha, b, k b hb, h⟩
  · exact .inr ⟨a, k a ha, b, k b hb, c, k c hc, h⟩
theorem Cv.mono {X Y : List P} {q : P} (h : Cv X q) (k : ∀ x ∈ X, x ∈ Y) : Cv Y q := by
  obtain ⟨a, b, c, ha, hb, hc, h⟩ := h
  exact ⟨a, b, c, k a ha, k b hb, k c hc, h⟩
theorem seg1 {a1 a2 b1 b2 q1 q2 : Rat} (h : (b1 - a1) * (q2 - a2) - (b2 - a2) * (q1 - a1) = 0) (hx : ¬(q1 < a1 ∧ q1 < b1)) (hy : ¬(a1 < q1 ∧ b1 < q1)) (hd : a1 ≠ b1) :
    ∃ t : Rat, 0 ≤ t ∧ t ≤ 1 ∧ q1 = (1 - t) * a1 + t * b1 ∧ q2 = (1 - t) * a2 + t * b2 := by
  have d0 : b1 - a1 ≠ 0 := by grind
  have et : (q1 - a1) / (b1 - a1) * (b1 - a1) = q1 - a1 := by grind
  generalize (q1 - a1) / (b1 - a1) = t at et
  have e2 : (b1 - a1) * (q2 - a2 - (b2 - a2) * t) = 0 := by grind
  have e3 : q2 - a2 - (b2 - a2) * t = 0 := by
    rcases Rat.mul_eq_zero.mp e2 with h | h
    · exact absurd h d0
    · exact h
  refine ⟨t, ?_, ?_, by grind, by grind⟩
  · by_cases c : a1 < b1
    · exact nn_of_mul (c := b1 - a1) (by grind) (by rw [et]; grind)
    · exact nn_of_mul (c := a1 - b1) (by grind) (by rw [show t * (a1 - b1) = a1 - q1 by grind]; grind)
  · have : 0 ≤ 1 - t := by
      by_cases c : a1 < b1
      · exact nn_of_mul (c := b1 - a1) (by grind) (by rw [show (1 - t) * (b1 - a1) = b1 - q1 by grind]; grind)
      · exact nn_of_mul (c := a1 - b1) (by grind) (by rw [show (1 - t) * (a1 - b1) = q1 - b1 by grind]; grind)
    grind
theorem On.seg {a b q : P} (h : On a b q) : ∃ t : Rat, 0 ≤ t ∧ t ≤ 1 ∧ q.1 = (1 - t) * a.1 + t * b.1 ∧ q.2 = (1 - t) * a.2 + t * b.2 := by
  obtain ⟨h0, ⟨h1, h2⟩, h3, h4⟩ := h
  by_cases c : a.1 = b.1
  · by_cases c' : a.2 = b.2
    · refine ⟨0, by decide, by decide, ?_, ?_⟩ <;> grind
    · obtain ⟨t, k1, k2, k3, k4⟩ := seg1 (a1 := a.2) (a2 := a.1) (b1 := b.2) (b2 := b.1) (q1 := q.2) (q2 := q.1) (by unfold cr at h0; grind) h3 h4 c'
      exact ⟨t, k1, k2, k4, k3⟩
  · exact seg1 h0 h1 h2 c
theorem On.cv {X : List P} {a b q : P} (ha : a ∈ X) (hb : b ∈ X) (h : On a b q) : Cv X q := by
  obtain ⟨t, k1, k2, k3, k4⟩ := h.seg
  exact ⟨a, b, a, ha, hb, ha, 1 - t, t, 0, by grind, k1, by decide, by grind, by grind, by grind⟩
theorem tri_sum (a b c q : P) : cr b c q + cr c a q + cr a b q = cr a b c := by unfold cr; grind
theorem tri_1 (a b c q : P) : cr b c q * a.1 + cr c a q * b.1 + cr a b q * c.1 = cr a b c * q.1 := by unfold cr; grind
theorem tri_2 (a b c q : P) : cr b c q * a.2 + cr c a q * b.2 + cr a b q * c.2 = cr a b c * q.2 := by unfold cr; grind
theorem div_lin {x y z a b c D q : Rat} (hD : D ≠ 0) (h : x * a + y * b + z * c = D * q) : q = x / D * a + y / D * b + z / D * c := by grind
theorem Tri.cv {X : List P} {a b c q : P} (ha : a ∈ X) (hb : b ∈ X) (hc : c ∈ X) (h : Tri a b c q) : Cv X q := by
  obtain ⟨h0, h⟩ := h
  have es := tri_sum a b c q
  have e1 := tri_1 a b c q
  have e2 := tri_2 a b c q
  generalize cr a b c = D at *
  generalize cr a b q = z at *
  generalize cr b c q = x at *
  generalize cr c a q = y at *
  have ex : x / D * D = x := by grind
  have ey : y / D * D = y := by grind
  have ez : z / D * D = z := by grind
  have nn : 0 ≤ x / D ∧ 0 ≤ y / D ∧ 0 ≤ z / D := by
    rcases h with ⟨k1, k2, k3⟩ | ⟨k1, k2, k3⟩
    · have hp : 0 < D := by grind
      exact ⟨nn_of_mul hp (by rw [ex]; exact k2), nn_of_mul hp (by rw [ey]; exact k3), nn_of_mul hp (by rw [ez]; exact k1)⟩
    · have hp : 0 < -D := by grind
      exact ⟨nn_of_mul hp (by grind), nn_of_mul hp (by grind), nn_of_mul hp (by grind)⟩
  exact ⟨a, b, c, ha, hb, hc, x / D, y / D, z / D, nn.1, nn.2.1, nn.2.2, by grind, div_lin h0 e1, div_lin h0 e2⟩
theorem In.cv {X : List P} {q : P} (h : In X q) : Cv X q := by
  rcases h with ⟨a, ha, b, hb, h⟩ | ⟨a, ha, b, hb, c, hc, h⟩
  · exact h.cv ha hb
  · exact h.cv ha hb hc
theorem cr_lin (u w a b c q : P) (r s t : Rat) (h : r + s + t = 1) (h1 : q.1 = r * a.1 + s * b.1 + t * c.1) (h2 : q.2 = r * a.2 + s * b.2 + t * c.2) : cr u w q = r * cr u w a + s * cr u w b + t * cr u w c := by
  have hr : r = 1 - s - t := by grind
  subst hr
  unfold cr
  rw [h1, h2]
  grind
theorem Cv.half {X : List P} {q u w : P} (h : Cv X q) (hX : ∀ x ∈ X, 0 ≤ cr u w x) : 0 ≤ cr u w q := by
  obtain ⟨a, b, c, ha, hb, hc, r, s, t, hr, hs, ht, h1, h2, h3⟩ := h
  rw [cr_lin u w a b c q r s t h1 h2 h3]
  have k1 := Rat.mul_nonneg hr (hX a ha)
  have k2 := Rat.mul_nonneg hs (hX b hb)
  have k3 := Rat.mul_nonneg ht (hX c hc)
  grind
theorem w_pos {r x : Rat} (hr : 0 ≤ r) (hx : 0 < x) : r = 0 ∨ 0 < r * x := by
  by_cases c : r = 0
  · exact .inl c
  · exact .inr (Rat.mul_pos (by grind) hx)
theorem w_sum {r s t x y z : Rat} (h : r + s + t = 1) (h1 : r = 0 ∨ 0 < r * x) (h2 : s = 0 ∨ 0 < s * y) (h3 : t = 0 ∨ 0 < t * z) : 0 < r * x + s * y + t * z := by
  have k1 : (r = 0 ∧ r * x = 0) ∨ 0 < r * x := h1.imp (fun e => ⟨e, by rw [e]; grind⟩) id
  have k2 : (s = 0 ∧ s * y = 0) ∨ 0 < s * y := h2.imp (fun e => ⟨e, by rw [e]; grind⟩) id
  have k3 : (t = 0 ∧ t * z = 0) ∨ 0 < t * z := h3.imp (fun e => ⟨e, by rw [e]; grind⟩) id
  generalize r * x = u at *
  generalize s * y = v at *
  generalize t * z = w at *
  grind
theorem Cv.half2 {X : List P} {q u w y : P} (h : Cv X q) (hX : ∀ x ∈ X, 0 < cr u w x + cr w y x) : 0 < cr u w q + cr w y q := by
  obtain ⟨a, b, c, ha, hb, hc, r, s, t, hr, hs, ht, h1, h2, h3⟩ := h
  rw [cr_lin u w a b c q r s t h1 h2 h3, cr_lin w y a b c q r s t h1 h2 h3]
  have := w_sum h1 (w_pos hr (hX a ha)) (w_pos hs (hX b hb)) (w_pos ht (hX c hc))
  grind
theorem w_lex {r x y : Rat} (hr : 0 ≤ r) (hx : 0 ≤ x) (h0 : r * x = 0) (h : 0 < x ∨ x = 0 ∧ 0 < y) : r = 0 ∨ 0 < r * y := by
  rcases h with h | h
  · rcases w_pos hr h with h' | h'
    · exact .inl h'
    · grind
  · exact w_pos hr h.2
theorem Cv.lx {X : List P} {q m : P} (h : Cv X q) (hX : ∀ x ∈ X, lt m x) : lt m q := by
  obtain ⟨a, b, c, ha, hb, hc, r, s, t, hr, hs, ht, h1, h2, h3⟩ := h
  have la := lt_lp.mp (hX a ha)
  have lb := lt_lp.mp (hX b hb)
  have lc := lt_lp.mp (hX c hc)
  have k1 := Rat.mul_nonneg hr la.nn
  have k2 := Rat.mul_nonneg hs lb.nn
  have k3 := Rat.mul_nonneg ht lc.nn
  have e1 : q.1 - m.1 = r * (vc m a).1 + s * (vc m b).1 + t * (vc m c).1 := by
    have : r = 1 - s - t := by grind
    subst this
    unfold vc
    grind
  have e2 : q.2 - m.2 = r * (vc m a).2 + s * (vc m b).2 + t * (vc m c).2 := by
    have : r = 1 - s - t := by grind
    subst this
    unfold vc
    grind
  by_cases c0 : m.1 < q.1
  · exact .inl c0
  · have z1 : r * (vc m a).1 = 0 := by grind
    have z2 : s * (vc m b).1 = 0 := by grind
    have z3 : t * (vc m c).1 = 0 := by grind
    have := w_sum h1 (w_lex hr la.nn z1 la) (w_lex hs lb.nn z2 lb) (w_lex ht lc.nn z3 lc)
    exact .inr ⟨by grind, by grind⟩
theorem Cv.nge {X : List P} {q m : P} (h : Cv X q) (hX : ∀ x ∈ X, ¬ lt x m) : ¬ lt q m := fun hq => lt_ir (h.lx (m := q) fun x hx => by
  rcases lt_tri x m with k | k | k
  · exact absurd k (hX x hx)
  · rw [k]; exact hq
  · exact lt_tr hq k)
theorem Cv.ngt {X : List P} {q : P} (h : Cv X q) : Cv (X.map neg) (neg q) := by
  obtain ⟨a, b, c, ha, hb, hc, r, s, t, hr, hs, ht, h1, h2, h3⟩ := h
  exact ⟨_, _, _, List.mem_map.mpr ⟨a, ha, rfl⟩, List.mem_map.mpr ⟨b, hb, rfl⟩, List.mem_map.mpr ⟨c, hc, rfl⟩, r, s, t, hr, hs, ht, h1, by unfold neg; grind, by unfold neg; grind⟩
theorem Cv.gx {X : List P} {q m : P} (h : Cv X q) (hX : ∀ x ∈ X, lt x m) : lt q m := by
  rw [← lt_neg]
  refine h.ngt.lx fun x hx => ?_
  obtain ⟨y, hy, rfl⟩ := List.mem_map.mp hx
  exact lt_neg.mpr (hX y hy)
theorem Cv.nle {X : List P} {q m : P} (h : Cv X q) (hX : ∀ x ∈ X, ¬ lt m x) : ¬ lt m q := by
  rw [← lt_neg]
  refine h.ngt.nge fun x hx => ?_
  obtain ⟨y, hy, rfl⟩ := List.mem_map.mp hx
  rw [lt_neg]
  exact hX y hy
theorem btw {a b q t : Rat} (h0 : 0 ≤ t) (h1 : t ≤ 1) (e : q = (1 - t) * a + t * b) : ¬(q < a ∧ q < b) ∧ ¬(a < q ∧ b < q) := by
  have k : 0 ≤ 1 - t := by grind
  constructor
  · rintro ⟨c1, c2⟩
    have e1 := Rat.mul_nonneg k (show 0 ≤ a - q by grind)
    have e2 := Rat.mul_nonneg h0 (show 0 ≤ b - q by grind)
    have : (1 - t) * (a - q) + t * (b - q) = 0 := by grind
    by_cases z : t = 0
    · grind
    · have := Rat.mul_pos (show 0 < t by grind) (show 0 < b - q by grind)
      grind
  · rintro ⟨c1, c2⟩
    have e1 := Rat.mul_nonneg k (show 0 ≤ q - a by grind)
    have : (1 - t) * (q - a) + t * (q - b) = 0 := by grind
    by_cases z : t = 0
    · grind
    · have := Rat.mul_pos (show 0 < t by grind) (show 0 < q - b by grind)
      grind
theorem on_mid {a b q : P} (h1 : lt a q) (h2 : lt q b) (h : cr a b q = 0) : On a b q := by
  refine ⟨h, ?_⟩
  have x1 : ¬(q.1 < a.1 ∧ q.1 < b.1) ∧ ¬(a.1 < q.1 ∧ b.1 < q.1) := by unfold lt at h1 h2; grind
  refine ⟨x1, ?_⟩
  by_cases c : a.1 = b.1
  · unfold lt at h1 h2; grind
  · obtain ⟨t, k1, k2, k3, k4⟩ := seg1 h x1.1 x1.2 c
    exact btw k1 k2 k4
theorem on_l (a b : P) : On a b a := ⟨cr_aba a b, by unfold Box; grind⟩
theorem on_r (a b : P) : On a b b := ⟨cr_abb a b, by unfold Box; grind⟩
theorem on_sw {a b q : P} (h : On a b q) : On b a q := ⟨by rw [cr_sw, h.1]; simp, by have := h.2; unfold Box at *; grind⟩
theorem tri_sw {a b c q : P} (h : Tri a b c q) : Tri b a c q := by
  obtain ⟨h0, h⟩ := h
  refine ⟨by rw [cr_sw]; grind, ?_⟩
  rw [cr_sw b a, cr_sw a c, cr_sw c b]
  grind
theorem tri_cy {a b c q : P} (h : Tri a b c q) : Tri b c a q := by
  obtain ⟨h0, h⟩ := h
  refine ⟨by rw [← cr_cy]; exact h0, ?_⟩
  grind
theorem on_ge {a b q : P} (h : On a b q) (h1 : a = b) : q = a := by
  obtain ⟨t, _, _, k3, k4⟩ := h.seg
  subst h1
  apply Prod.ext <;> grind
end Hl

/-! what a hull is: plain mathematics -/
namespace Hl
abbrev wo (S : List P) (p : P) : List P := S.filter fun x => decide (x ≠ p)
theorem mem_wo {S : List P} {p x : P} : x ∈ wo S p ↔ x ∈ S ∧ x ≠ p := by simp [wo, List.mem_filter]
theorem cyl {h : List P} {k : Nat} (hk : k < h.length) : cy h k = g h k := cy_lt hk
theorem nd_g {h : List P} (nd : h.Nodup) {i j : Nat} (hi : i < h.length) (hj : j < h.length) (e : g h i = g h j) : i = j := by
  unfold g at e
  rw [List.getD_eq_getElem?_getD, List.getD_eq_getElem?_getD, List.getElem?_eq_getElem hi, List.getElem?_eq_getElem hj] at e
  exact (List.getElem_inj nd).mp e
theorem two_z {a b q w : P} (h : cr a b w ≠ 0) (h1 : cr a b q = 0) (h2 : cr b w q = 0) : q = b := by
  have e1 : cr a b w * (q.1 - b.1) = 0 := by unfold cr at *; grind
  have e2 : cr a b w * (q.2 - b.2) = 0 := by unfold cr at *; grind
  have k1 : q.1 - b.1 = 0 := (Rat.mul_eq_zero.mp e1).resolve_left h
  have k2 : q.2 - b.2 = 0 := (Rat.mul_eq_zero.mp e2).resolve_left h
  apply Prod.ext <;> grind
section
variable {S h : List P}
/-- a corner lies in nothing of others -/
theorem Hu.ext (H : Hu S h) {p : P} (hp : p ∈ h) : ¬ Cv (wo S p) p := by
  intro hc
  obtain ⟨k, hk, rfl⟩ := mem_g hp
  by_cases c1 : h.length = 1
  · obtain ⟨a, b, c, ha, _⟩ := hc
    obtain ⟨h1, h2⟩ := mem_wo.mp ha
    have := H.one c1 a h1
    rw [show k = 0 by omega] at h2
    exact h2 this
  · by_cases c2 : h.length = 2
    · by_cases k0 : k = 0
      · subst k0
        exact lt_ir (hc.lx fun x hx => by
          obtain ⟨h1, h2⟩ := mem_wo.mp hx
          rcases H.fst x h1 with e | e
          · exact absurd e h2
          · exact e)
      · have : k = 1 := by omega
        subst this
        exact lt_ir (hc.gx fun x hx => by
          obtain ⟨h1, h2⟩ := mem_wo.mp hx
          rcases H.two c2 x h1 with e | e
          · exact absurd e h2
          · exact e)
    · have t := H.tn (by omega) (k + h.length - 1)
      rw [show k + h.length - 1 + 1 = k + h.length by omega, show k + h.length - 1 + 2 = k + 1 + h.length by omega, cy_per, cy_per] at t
      have s1 := H.sp (k + h.length - 1)
      rw [show k + h.length - 1 + 1 = k + h.length by omega, cy_per] at s1
      have s2 := H.sp k
      rw [cyl hk] at t s1 s2
      have := hc.half2 (u := cy h (k + h.length - 1)) (w := g h k) (y := cy h (k + 1)) fun x hx => by
        obtain ⟨h1, h2⟩ := mem_wo.mp hx
        have a1 := s1 x h1
        have a2 := s2 x h1
        by_cases z : 0 < cr (cy h (k + h.length - 1)) (g h k) x + cr (g h k) (cy h (k + 1)) x
        · exact z
        · exact absurd (two_z (by grind) (show cr (cy h (k + h.length - 1)) (g h k) x = 0 by grind) (show cr (g h k) (cy h (k + 1)) x = 0 by grind)) h2
      rw [cr_abb, cr_aba] at this
      exact absurd this (by grind)
/-- no three corners on one line -/
theorem Hu.ncol (H : Hu S h) {x y z : P} (hx : x ∈ h) (hy : y ∈ h) (hz : z ∈ h) (n1 : x ≠ y) (n2 : y ≠ z) (n3 : x ≠ z) : cr x y z ≠ 0 := by
  have mid : ∀ {a b q : P}, a ∈ h → b ∈ h → q ∈ h → lt a q → lt q b → cr a b q = 0 → False := fun ha hb hq h1 h2 e =>
    H.ext hq ((on_mid h1 h2 e).cv (mem_wo.mpr ⟨H.sub _ ha, fun e => by rw [e] at h1; exact lt_ir h1⟩) (mem_wo.mpr ⟨H.sub _ hb, fun e => by rw [e] at h2; exact lt_ir h2⟩))
  intro e
  have e2 : cr y x z = 0 := by rw [cr_sw, e]; simp
  have e3 : cr y z x = 0 := by rw [← cr_cy]; exact e
  have e4 : cr z y x = 0 := by rw [cr_sw, e3]; simp
  have e5 : cr z x y = 0 := by rw [← cr_cy, ← cr_cy]; exact e
  have e6 : cr x z y = 0 := by rw [cr_sw, e5]; simp
  rcases lt_tri x y with a | a | a
  · rcases lt_tri y z with b | b | b
    · exact mid hx hz hy a b e6
    · exact n2 b
    · rcases lt_tri x z with c | c | c
      · exact mid hx hy hz c b e
      · exact n3 c
      · exact mid hz hy hx c a e4
  · exact n1 a
  · rcases lt_tri y z with b | b | b
    · rcases lt_tri x z with c | c | c
      · exact mid hy hz hx a c e3
      · exact n3 c
      · exact mid hy hx hz b c e2
    · exact n2 b
    · exact mid hz hx hy b a e5
theorem Hu.edge (H : Hu S h) {j i : Nat} (hj : j + 1 < h.length) (hi : i < h.length) (h1 : i ≠ j) (h2 : i ≠ j + 1) : 0 < cr (g h j) (g h (j + 1)) (g h i) := by
  have s := H.sp j (g h i) (H.sub _ (g_mem hi))
  rw [cyl (by omega), cyl hj] at s
  have n := H.ncol (g_mem (show j < h.length by omega)) (g_mem hj) (g_mem hi) (fun e => by have := nd_g H.nd (by omega) hj e; omega) (fun e => by have := nd_g H.nd hj hi e; omega) (fun e => by have := nd_g H.nd (by omega) hi e; omega)
  grind
/-! what a shape has -/
theorem ivt {f : Nat → Rat} : ∀ n, 1 ≤ n → 0 ≤ f 1 → f (n + 1) ≤ 0 → ∃ j, 1 ≤ j ∧ j ≤ n ∧ 0 ≤ f j ∧ f (j + 1) ≤ 0
  | 0, h, _, _ => by omega
  | 1, _, h1, h2 => ⟨1, by omega, by omega, h1, h2⟩
  | n + 2, _, h1, h2 => by
    by_cases c : 0 ≤ f (n + 2)
    · exact ⟨n + 2, by omega, by omega, c, h2⟩
    · obtain ⟨j, a, b, k⟩ := ivt (f := f) (n + 1) (by omega) h1 (by grind)
      exact ⟨j, a, by omega, k⟩
def Has (h : List P) (q : P) : Prop := if h.length = 1 then g h 0 = q else if h.length = 2 then cr (g h 0) (g h 1) q = 0 ∧ ¬ lt q (g h 0) ∧ ¬ lt (g h 1) q else ∀ k, k < h.length → 0 ≤ cr (cy h k) (cy h (k + 1)) q
theorem Hu.has_in (H : Hu S h) {q : P} (hq : Has h q) : In h q := by
  unfold Has at hq
  have l0 := List.length_pos_iff.mpr H.ne
  split at hq
  · subst hq
    exact .inl ⟨_, g_mem l0, _, g_mem l0, on_l _ _⟩
  · split at hq
    · rename_i c
      obtain ⟨h1, h2, h3⟩ := hq
      refine .inl ⟨_, g_mem l0, _, g_mem (show 1 < h.length by omega), ?_⟩
      rcases lt_tri (g h 0) q with a | a | a
      · rcases lt_tri q (g h 1) with b | b | b
        · exact on_mid a b h1
        · rw [b]; exact on_r _ _
        · exact absurd b h3
      · rw [← a]; exact on_l _ _
      · exact absurd a h2
    · obtain ⟨j, a, b, c, d⟩ := ivt (f := fun j => cr (g h 0) (g h j) q) (h.length - 2) (by omega) (by
        have := hq 0 l0
        rwa [cyl l0, cyl (by omega)] at this) (by
        have := hq (h.length - 1) (by omega)
        rw [show h.length - 1 + 1 = 0 + h.length by omega, cy_per, cyl (by omega), cyl l0, cr_sw] at this
        rw [show h.length - 2 + 1 = h.length - 1 by omega]
        grind)
      refine .inr ⟨_, g_mem l0, _, g_mem (show j < h.length by omega), _, g_mem (show j + 1 < h.length by omega), ?_⟩
      have e := H.edge (j := j) (i := 0) (by omega) l0 (by omega) (by omega)
      have f := hq j (by omega)
      rw [cyl (by omega), cyl (by omega)] at f
      refine ⟨by rw [cr_cy]; grind, .inl ⟨c, f, ?_⟩⟩
      rw [cr_sw]
      grind
theorem Hu.cv_has (H : Hu S h) {q : P} (hq : Cv S q) : Has h q := by
  unfold Has
  have l0 := List.length_pos_iff.mpr H.ne
  split
  · rename_i c
    rcases lt_tri (g h 0) q with a | a | a
    · refine absurd a (hq.nle fun x hx => ?_)
      rw [H.one c x hx]; exact lt_ir
    · exact a
    · refine absurd a (hq.nge fun x hx => ?_)
      rw [H.one c x hx]; exact lt_ir
  · split
    · rename_i c
      have s1 := hq.half (H.sp 0)
      have s2 := hq.half (H.sp 1)
      rw [cyl l0, cyl (by omega)] at s1
      rw [cyl (by omega), show 1 + 1 = 0 + h.length by omega, cy_per, cyl l0, cr_sw] at s2
      refine ⟨by grind, hq.nge fun x hx a => ?_, hq.nle fun x hx a => ?_⟩
      · rcases H.fst x hx with b | b
        · rw [b] at a; exact lt_ir a
        · exact lt_ir (lt_tr a b)
      · rcases H.two c x hx with b | b
        · rw [b] at a; exact lt_ir a
        · exact lt_ir (lt_tr a b)
    · exact fun k _ => hq.half (H.sp k)
theorem Hu.has_iff (H : Hu S h) {q : P} : Has h q ↔ In S q := ⟨fun k => (H.has_in k).mono H.sub, fun k => H.cv_has k.cv⟩
/-- the corners are those that lie in nothing of others -/
theorem Hu.corner (H : Hu S h) {p : P} : p ∈ h ↔ p ∈ S ∧ ¬ In (wo S p) p := by
  constructor
  · exact fun hp => ⟨H.sub p hp, fun k => H.ext hp k.cv⟩
  · rintro ⟨hp, hn⟩
    apply Classical.byContradiction
    intro hc
    refine hn ((H.has_in (H.cv_has (In.cv (.inl ⟨p, hp, p, hp, on_l p p⟩)))).mono fun x hx => mem_wo.mpr ⟨H.sub x hx, fun e => hc (by rw [← e]; exact hx)⟩)
theorem Hu.congr {S' : List P} (H : Hu S h) (e : ∀ p, p ∈ S ↔ p ∈ S') : Hu S' h :=
  ⟨H.ne, H.nd, fun p hp => (e p).mp (H.sub p hp), fun q hq => H.fst q ((e q).mpr hq), fun c q hq => H.one c q ((e q).mpr hq), fun c q hq => H.two c q ((e q).mpr hq), fun k q hq => H.sp k q ((e q).mpr hq), H.tn⟩
end
/-! one hull -/
structure Fan (h : List P) : Prop where
  ne : h ≠ []
  lx : ∀ i, 0 < i → i < h.length → lt (g h 0) (g h i)
  tn : ∀ i, 0 < i → i + 1 < h.length → 0 < cr (g h 0) (g h i) (g h (i + 1))
theorem Fan.far {h : List P} (F : Fan h) : ∀ d i, 0 < i → i + d + 1 < h.length → 0 < cr (g h 0) (g h i) (g h (i + d + 1))
  | 0, i, h0, h1 => F.tn i h0 h1
  | d + 1, i, h0, h1 => by
    have a := F.far d i h0 (by omega)
    have b := F.tn (i + d + 1) (by omega) (by omega)
    have l1 := lt_lp.mp (F.lx i h0 (by omega))
    have l2 := lt_lp.mp (F.lx (i + d + 1) (by omega) (by omega))
    have l3 := lt_lp.mp (F.lx (i + d + 1 + 1) (by omega) (by omega))
    rw [cr_vc] at a b ⊢
    exact t_pn l1 l2 l3 a (Rat.le_of_lt b)
theorem Hu.fan {S h : List P} (H : Hu S h) : Fan h := by
  refine ⟨H.ne, fun i h0 h1 => ?_, fun i h0 h1 => ?_⟩
  · rcases H.fst _ (H.sub _ (g_mem h1)) with e | e
    · have := nd_g H.nd h1 (by omega) e
      omega
    · exact e
  · rw [cr_cy]
    exact H.edge h1 (by omega) (by omega) (by omega)
theorem Fan.uniq {h h' : List P} (F : Fan h) (F' : Fan h') (n : h.Nodup) (n' : h'.Nodup) (e : ∀ p, p ∈ h ↔ p ∈ h') : h = h' := by
  have e0 : g h 0 = g h' 0 := by
    obtain ⟨i, hi, e1⟩ := mem_g ((e _).mp (g_mem (List.length_pos_iff.mpr F.ne)))
    obtain ⟨j, hj, e2⟩ := mem_g ((e _).mpr (g_mem (List.length_pos_iff.mpr F'.ne)))
    by_cases i0 : i = 0
    · rw [e1, i0]
    · by_cases j0 : j = 0
      · rw [e2, j0]
      · have a := F'.lx i (by omega) hi
        have b := F.lx j (by omega) hj
        rw [← e1] at a
        rw [← e2] at b
        exact absurd (lt_tr a b) lt_ir
  match h, h', F, F', n, n', e, e0 with
  | [], _, F, _, _, _, _, _ => exact absurd rfl F.ne
  | _ :: _, [], _, F', _, _, _, _ => exact absurd rfl F'.ne
  | a :: t, a' :: t', F, F', n, n', e, e0 =>
    have ea : a = a' := e0
    subst ea
    obtain ⟨n1, n2⟩ := List.nodup_cons.mp n
    obtain ⟨n1', n2'⟩ := List.nodup_cons.mp n'
    have pm : t.Perm t' := (List.perm_ext_iff_of_nodup n2 n2').mpr fun p => by
      have := e p
      simp only [List.mem_cons] at this
      constructor
      · intro hp
        rcases this.mp (.inr hp) with rfl | k
        · exact absurd hp n1
        · exact k
      · intro hp
        rcases this.mpr (.inr hp) with rfl | k
        · exact absurd hp n1'
        · exact k
    have pw : ∀ {l : List P}, Fan (a :: l) → l.Pairwise (fun x y => 0 < cr a x y) := fun {l} F => by
      refine List.pairwise_iff_getElem.mpr fun i j hi hj hij => ?_
      have := F.far (j - i - 1) (i + 1) (by omega) (by simp; omega)
      rw [show i + 1 + (j - i - 1) + 1 = j + 1 by omega, g_s, g_s, g_0] at this
      unfold g at this
      rw [List.getD_eq_getElem?_getD, List.getD_eq_getElem?_getD, List.getElem?_eq_getElem hi, List.getElem?_eq_getElem hj] at this
      exact this
    have := List.Perm.eq_of_pairwise (le := fun x y => 0 < cr a x y) (fun x y _ _ h1 h2 => by
      have : cr a x y = -cr a y x := by unfold cr; grind
      grind) (pw F) (pw F') pm
    rw [this]
/-! in order -/
def ins (f : List P) (p : P) : List P := f.filter (fun x => decide (lt x p)) ++ p :: f.filter (fun x => decide (lt p x))
theorem mem_ins {f : List P} {p x : P} : x ∈ ins f p ↔ x ∈ f ∨ x = p := by
  unfold ins
  simp only [List.mem_append, List.mem_filter, List.mem_cons, decide_eq_true_eq]
  constructor
  · rintro (⟨h, _⟩ | h | ⟨h, _⟩)
    · exact .inl h
    · exact .inr h
    · exact .inl h
  · rintro (h | h)
    · rcases lt_tri x p with k | k | k
      · exact .inl ⟨h, k⟩
      · exact .inr (.inl k)
      · exact .inr (.inr ⟨h, k⟩)
    · exact .inr (.inl h)
theorem ins_pw {f : List P} (h : f.Pairwise lt) (p : P) : (ins f p).Pairwise lt := by
  unfold ins
  rw [List.pairwise_append]
  refine ⟨h.filter _, List.pairwise_cons.mpr ⟨fun x hx => by simpa using (List.mem_filter.mp hx).2, h.filter _⟩, ?_⟩
  intro a ha b hb
  have a1 : lt a p := by simpa using (List.mem_filter.mp ha).2
  rcases List.mem_cons.mp hb with rfl | hb
  · exact a1
  · exact lt_tr a1 (by simpa using (List.mem_filter.mp hb).2)
def ord (v : List P) : List P := v.foldl ins []
theorem ord_gen : ∀ {v f : List P}, f.Pairwise lt → (v.foldl ins f).Pairwise lt ∧ ∀ x, x ∈ v.foldl ins f ↔ x ∈ f ∨ x ∈ v
  | [], f, h => ⟨h, by simp⟩
  | p :: v, f, h => by
    obtain ⟨a, b⟩ := ord_gen (v := v) (ins_pw h p)
    refine ⟨a, fun x => ?_⟩
    rw [List.foldl_cons, b, mem_ins, List.mem_cons, or_assoc]
theorem ord_pw (v : List P) : (ord v).Pairwise lt := (ord_gen .nil).1
theorem mem_ord {v : List P} {x : P} : x ∈ ord v ↔ x ∈ v := by
  have := (ord_gen (v := v) (f := []) .nil).2 x
  unfold ord
  simpa using this
theorem lt_uniq {l m : List P} (hl : l.Pairwise lt) (hm : m.Pairwise lt) (e : ∀ x, x ∈ l ↔ x ∈ m) : l = m :=
  List.Perm.eq_of_pairwise (le := lt) (fun a b _ _ h k => absurd (lt_tr h k) lt_ir) hl hm ((List.perm_ext_iff_of_nodup (hl.imp fun {a b} h e => by rw [e] at h; exact lt_ir h) (hm.imp fun {a b} h e => by rw [e] at h; exact lt_ir h)).mpr e)
theorem ord_congr {v w : List P} (e : ∀ x, x ∈ v ↔ x ∈ w) : ord v = ord w := lt_uniq (ord_pw v) (ord_pw w) fun x => by rw [mem_ord, mem_ord, e]
/-- the hull of any points -/
def HU (v : List P) : List P := hull (ord v)
theorem HU_congr {v w : List P} (e : ∀ x, x ∈ v ↔ x ∈ w) : HU v = HU w := by unfold HU; rw [ord_congr e]
theorem HU_ok {v : List P} (hn : v ≠ []) : Hu v (HU v) := by
  refine (hull_ok (ord_pw v) ?_).congr fun p => mem_ord
  intro e
  obtain ⟨p, hp⟩ := List.exists_mem_of_ne_nil v hn
  have := mem_ord.mpr hp
  rw [e] at this
  cases this
theorem HU_fix {v : List P} (nd : v.Nodup) (F : Fan v) (hc : ∀ p ∈ v, ¬ In (wo v p) p) : HU v = v := by
  have H := HU_ok F.ne
  refine H.fan.uniq F H.nd nd fun p => ?_
  rw [H.corner]
  exact ⟨fun h => h.1, fun h => ⟨h, hc p h⟩⟩
theorem wo_in {S h : List P} (H : Hu S h) {p : P} (hp : p ∈ h) {w : List P} (hw : ∀ x ∈ w, x ∈ S) : ¬ In (wo w p) p := fun k =>
  H.ext hp (k.mono fun x hx => mem_wo.mpr ⟨hw x (mem_wo.mp hx).1, (mem_wo.mp hx).2⟩).cv
theorem Hu.fix {S h : List P} (H : Hu S h) : HU h = h := HU_fix H.nd H.fan fun p hp => wo_in H hp H.sub
theorem HU_HU {v : List P} (hn : v ≠ []) : HU (HU v) = HU v := (HU_ok hn).fix
/-! shapes -/
structure Sh (v : List P) : Prop where
  nd : v.Nodup
  co : ∀ p ∈ v, ¬ In (wo v p) p
  fs : ∀ i, 0 < i → i < v.length → ¬ lt (g v i) (g v 0)
  tn : v.length < 3 ∨ ∀ k, k < v.length → 0 < cr (cy v (k + v.length - 2)) (cy v (k + v.length - 1)) (cy v k)
theorem Sh.of_fix {v : List P} (hn : v ≠ []) (e : HU v = v) : Sh v := by
  have H := HU_ok hn
  rw [e] at H
  refine ⟨H.nd, fun p hp => (H.corner.mp hp).2, fun i h0 hi => ?_, ?_⟩
  · intro k
    rcases H.fst _ (g_mem hi) with a | a
    · rw [a] at k; exact lt_ir k
    · exact lt_ir (lt_tr a k)
  · by_cases c : v.length < 3
    · exact .inl c
    · refine .inr fun k hk => ?_
      have := H.tn (by omega) (k + v.length - 2)
      rwa [show k + v.length - 2 + 1 = k + v.length - 1 by omega, show k + v.length - 2 + 2 = k + v.length by omega, cy_per] at this
theorem Sh.fix {v : List P} (hn : v ≠ []) (h : Sh v) (ht : ∀ i, 0 < i → i + 1 < v.length → 0 < cr (g v 0) (g v i) (g v (i + 1))) : HU v = v := by
  refine HU_fix h.nd ⟨hn, fun i h0 h1 => ?_, ht⟩ h.co
  rcases lt_tri (g v 0) (g v i) with a | a | a
  · exact a
  · have := nd_g h.nd (by omega) h1 a
    omega
  · exact absurd a (h.fs i h0 h1)
section
variable {S h : List P}
theorem Hu.sh_rev (H : Hu S h) : Sh h.reverse ↔ HU h.reverse = h.reverse := by
  refine ⟨fun s => ?_, Sh.of_fix (by simpa using H.ne)⟩
  by_cases c : h.length = 1
  · match h, c with
    | [a], _ => exact H.fix
  · have l0 := List.length_pos_iff.mpr H.ne
    have := s.fs (h.length - 1) (by omega) (by simp; omega)
    rw [g_rev (by omega), g_rev l0, show h.length - 1 - (h.length - 1) = 0 by omega] at this
    exact absurd (H.fan.lx (h.length - 1 - 0) (by omega) (by omega)) this
theorem Hu.sh_tail (H : Hu S h) (hn : h.drop 1 ≠ []) : Sh (h.drop 1) ↔ HU (h.drop 1) = h.drop 1 := by
  refine ⟨fun s => s.fix hn fun i h0 h1 => ?_, Sh.of_fix hn⟩
  have e : ∀ i, g (h.drop 1) i = g h (i + 1) := fun i => by
    unfold g
    rw [List.getD_eq_getElem?_getD, List.getElem?_drop, List.getD_eq_getElem?_getD, Nat.add_comm]
  rw [List.length_drop] at h1
  rw [e, e, e, cr_cy]
  exact H.edge (by omega) (by omega) (by omega) (by omega)
theorem Hu.sh_dup (H : Hu S h) : ¬ Sh (h ++ h.take 1) ∧ HU (h ++ h.take 1) ≠ h ++ h.take 1 := by
  have key : ¬ (h ++ h.take 1).Nodup := by
    cases h with
    | nil => exact absurd rfl H.ne
    | cons a t =>
      intro n
      have := (List.nodup_append.mp n).2.2 a (by simp) a (by simp)
      exact this rfl
  exact ⟨fun s => key s.nd, fun e => key (by rw [← e]; exact (HU_ok (by simpa using H.ne)).nd)⟩
theorem Hu.sh_rot (H : Hu S h) {k : Nat} (hk : k < h.length) : Sh (h.drop k ++ h.take k) ↔ HU (h.drop k ++ h.take k) = h.drop k ++ h.take k := by
  have hn : h.drop k ++ h.take k ≠ [] := by
    intro e
    have := congrArg List.length e
    simp at this
    omega
  refine ⟨fun s => ?_, Sh.of_fix hn⟩
  by_cases c : k = 0
  · subst c
    simpa using H.fix
  · have ld : (h.drop k).length = h.length - k := List.length_drop
    have := s.fs (h.length - k) (by omega) (by rw [List.length_append, ld, List.length_take]; omega)
    rw [← ld, show (h.drop k).length = (h.drop k).length + 0 by omega, g_apr, g_apl (by omega)] at this
    have e1 : g (h.take k) 0 = g h 0 := by
      unfold g
      rw [List.getD_eq_getElem?_getD, List.getElem?_take, if_pos (by omega), List.getD_eq_getElem?_getD]
    have e2 : g (h.drop k) 0 = g h k := by
      unfold g
      rw [List.getD_eq_getElem?_getD, List.getElem?_drop, List.getD_eq_getElem?_getD, Nat.add_zero]
    rw [e1, e2] at this
    exact absurd (H.fan.lx k (by omega) hk) this
theorem Hu.sh_add (H : Hu S h) (q : P) : Sh (h ++ [q]) ↔ HU (h ++ [q]) = h ++ [q] := by
  have l0 := List.length_pos_iff.mpr H.ne
  refine ⟨fun s => s.fix (by simp) fun i h0 h1 => ?_, Sh.of_fix (by simp)⟩
  rw [List.length_append, List.length_singleton] at h1
  by_cases c : i + 1 < h.length
  · rw [g_apl l0, g_apl (by omega), g_apl c]
    exact H.fan.tn i h0 c
  · rcases s.tn with t | t
    · rw [List.length_append, List.length_singleton] at t
      omega
    · have := t 0 (by simp)
      have ln : (h ++ [q]).length = h.length + 1 := by simp
      rw [ln, show 0 + (h.length + 1) - 2 = h.length - 1 by omega, show 0 + (h.length + 1) - 1 = h.length by omega, cyl (by omega), cyl (by omega), cyl (by omega), ← cr_cy, show h.length - 1 = i by omega, show h.length = i + 1 by omega] at this
      rw [cr_cy] at this
      rw [cr_cy]
      exact this
end
end Hl

namespace LawS
open Tw L2 LawP Hl
noncomputable def F_less : Fs :=
  (sRet (eBin gLt (eBin gMul (eBin gIx (eVar 0) (eLit (.int 0))) (eBin gIx (eVar 1) (eLit (.int 1)))) (eBin gMul (eBin gIx (eVar 1) (eLit (.int 0))) (eBin gIx (eVar 0) (eLit (.int 1))))))
noncomputable def sem_less : Sem' := semOf 2 [] F_less
noncomputable def F_sooner : Fs :=
  (sRet (eOr (eOwn sem_less [] (aCons (eBin gIx (eVar 0) (eLit (.int 0))) (aCons (eBin gIx (eVar 1) (eLit (.int 0))) aNil))) (eAnd (eBin gEq (eBin gIx (eVar 0) (eLit (.int 0))) (eBin gIx (eVar 1) (eLit (.int 0)))) (eOwn sem_less [] (aCons (eBin gIx (eVar 0) (eLit (.int 1))) (aCons (eBin gIx (eVar 1) (eLit (.int 1))) aNil))))))
noncomputable def sem_sooner : Sem' := semOf 2 [] F_sooner
noncomputable def F_in_order : Fs :=
  (sSeq (sAsg 1 (eLst aNil)) (sSeq (sFor (iAny (eVar 0)) (tgN 2) (sSeq (sPar 3 4 (aCons (eLit (.int 0)) (aCons (eCall gLen (aCons (eVar 1) aNil)) aNil))) (sSeq (sWhile (tOf (eBin gLt (eVar 3) (eVar 4))) (sSeq (sAsg 5 (eBin gDiv (eBin gAdd (eVar 3) (eVar 4)) (eLit (.int 2)))) (sSeq (sIf (tTru (eOwn sem_sooner [] (aCons (eBin gIx (eVar 1) (eVar 5)) (aCons (eVar 2) aNil)))) (sSeq (sAsg 3 (eBin gAdd (eVar 5) (eLit (.int 1)))) sNx) (sSeq (sAsg 4 (eVar 5)) sNx)) sNx))) (sSeq (sIf (tOrT (tOf (eBin gEq (eVar 3) (eCall gLen (aCons (eVar 1) aNil)))) (tOf (eBin gNe (eBin gIx (eVar 1) (eVar 3)) (eVar 2)))) (sSeq (sAsg 1 (eBin gAdd (eBin gAdd (eSl gSl (eVar 1) oNone (oSome (eVar 3))) (eLst (aCons (eVar 2) aNil))) (eSl gSl (eVar 1) (oSome (eVar 3)) oNone))) sNx) sNx) (sKill 2 (sKill 3 (sKill 4 (sKill 5 sNx)))))))) (sRet (eVar 1))))
noncomputable def sem_in_order : Sem' := semOf 6 [] F_in_order
noncomputable def F_turn : Fs :=
  (sSeq (sAsg 3 (eOwn sem_times [] (aCons (eOwn sem_minus [] (aCons (eBin gIx (eVar 1) (eLit (.int 0))) (aCons (eBin gIx (eVar 0) (eLit (.int 0))) aNil))) (aCons (eOwn sem_minus [] (aCons (eBin gIx (eVar 2) (eLit (.int 1))) (aCons (eBin gIx (eVar 0) (eLit (.int 1))) aNil))) aNil)))) (sRet (eOwn sem_minus [] (aCons (eVar 3) (aCons (eOwn sem_times [] (aCons (eOwn sem_minus [] (aCons (eBin gIx (eVar 1) (eLit (.int 1))) (aCons (eBin gIx (eVar 0) (eLit (.int 1))) aNil))) (aCons (eOwn sem_minus [] (aCons (eBin gIx (eVar 2) (eLit (.int 0))) (aCons (eBin gIx (eVar 0) (eLit (.int 0))) aNil))) aNil))) aNil)))))
noncomputable def sem_turn : Sem' := semOf 4 [] F_turn
noncomputable def F_chain : Fs :=
  (sSeq (sAsg 1 (eLst aNil)) (sSeq (sFor (iAny (eVar 0)) (tgN 2) (sSeq (sWhile (tAndT (tOf (eBin gGt (eCall gLen (aCons (eVar 1) aNil)) (eLit (.int 1)))) (tNotT (tTru (eOwn sem_less [] (aCons (eLit (.tup [.int 0, .int 1])) (aCons (eOwn sem_turn [] (aCons (eBin gIx (eVar 1) (eUn gNeg (eLit (.int 2)))) (aCons (eBin gIx (eVar 1) (eUn gNeg (eLit (.int 1)))) (aCons (eVar 2) aNil)))) aNil)))))) (sSeq (sAsg 1 (eSl gSlN (eVar 1) oNone (oSome (eUn gNeg (eLit (.int 1)))))) sNx)) (sSeq (sDrop (eMut 1 isL gApp (aCons (eVar 2) aNil))) (sKill 2 sNx)))) (sRet (eVar 1))))
noncomputable def sem_chain : Sem' := semOf 3 [] F_chain
noncomputable def F_hull : Fs :=
  (sSeq (sAsg 1 (eOwn sem_in_order [] (aCons (eVar 0) aNil))) (sSeq (sIf (tOf (eBin gLt (eCall gLen (aCons (eVar 1) aNil)) (eLit (.int 2)))) (sRet (eVar 1)) sNx) (sRet (eBin gAdd (eSl gSl (eOwn sem_chain [] (aCons (eVar 1) aNil)) oNone (oSome (eUn gNeg (eLit (.int 1))))) (eSl gSl (eOwn sem_chain [] (aCons (eUn gRev (eVar 1)) aNil)) oNone (oSome (eUn gNeg (eLit (.int 1)))))))))
noncomputable def sem_hull : Sem' := semOf 2 [] F_hull
noncomputable def F_sides : Fs :=
  (sRet (eComp [1] (iR1 (aCons (eCall gLen (aCons (eVar 0) aNil)) aNil)) (tgN 1) tYesT (eTup (aCons (eBin gIx (eVar 0) (eBin gSub (eVar 1) (eLit (.int 1)))) (aCons (eBin gIx (eVar 0) (eVar 1)) aNil)))))
noncomputable def sem_sides : Sem' := semOf 2 [] F_sides
noncomputable def F_has : Fs :=
  (sSeq (sIf (tOf (eBin gEq (eCall gLen (aCons (eVar 0) aNil)) (eLit (.int 1)))) (sRet (eBin gEq (eBin gIx (eVar 0) (eLit (.int 0))) (eVar 1))) sNx) (sSeq (sIf (tOf (eBin gEq (eCall gLen (aCons (eVar 0) aNil)) (eLit (.int 2)))) (sSeq (sAsgT (tgSeq 2 (tgCons (tgN 2) (tgCons (tgN 3) tgNil))) (eVar 0)) (sRet (eAnd (eBin gEq (eOwn sem_turn [] (aCons (eVar 2) (aCons (eVar 3) (aCons (eVar 1) aNil)))) (eLit (.tup [.int 0, .int 1]))) (eAnd (eNot (eOwn sem_sooner [] (aCons (eVar 1) (aCons (eVar 2) aNil)))) (eNot (eOwn sem_sooner [] (aCons (eVar 3) (aCons (eVar 1) aNil)))))))) sNx) (sRet (eNot (eCall gAny (aCons (eComp [2, 3] (iAny (eOwn sem_sides [] (aCons (eVar 0) aNil))) (tgSeq 2 (tgCons (tgN 2) (tgCons (tgN 3) tgNil))) tYesT (eOwn sem_less [] (aCons (eOwn sem_turn [] (aCons (eVar 2) (aCons (eVar 3) (aCons (eVar 1) aNil)))) (aCons (eLit (.tup [.int 0, .int 1])) aNil)))) aNil))))))
noncomputable def sem_has : Sem' := semOf 4 [] F_has
noncomputable def F_area : Fs :=
  (sSeq (sAsg 1 (eLit (.tup [.int 0, .int 1]))) (sSeq (sFor (iAny (eOwn sem_sides [] (aCons (eVar 0) aNil))) (tgSeq 2 (tgCons (tgN 2) (tgCons (tgN 3) tgNil))) (sSeq (sAsg 1 (eOwn sem_plus [] (aCons (eVar 1) (aCons (eOwn sem_minus [] (aCons (eOwn sem_times [] (aCons (eBin gIx (eVar 2) (eLit (.int 0))) (aCons (eBin gIx (eVar 3) (eLit (.int 1))) aNil))) (aCons (eOwn sem_times [] (aCons (eBin gIx (eVar 3) (eLit (.int 0))) (aCons (eBin gIx (eVar 2) (eLit (.int 1))) aNil))) aNil))) aNil)))) (sKill 2 (sKill 3 sNx)))) (sRet (eOwn sem_over [] (aCons (eVar 1) (aCons (eTup (aCons (eLit (.int 2)) (aCons (eLit (.int 1)) aNil))) aNil))))))
noncomputable def sem_area : Sem' := semOf 4 [] F_area
noncomputable def F_along : Fs :=
  (sRet (eOwn sem_plus [] (aCons (eOwn sem_times [] (aCons (eBin gIx (eVar 1) (eLit (.int 0))) (aCons (eBin gIx (eVar 0) (eLit (.int 0))) aNil))) (aCons (eOwn sem_times [] (aCons (eBin gIx (eVar 1) (eLit (.int 1))) (aCons (eBin gIx (eVar 0) (eLit (.int 1))) aNil))) aNil))))
noncomputable def sem_along : Sem' := semOf 2 [] F_along
noncomputable def F_reach : Fs :=
  (sSeq (sAsg 2 (eLit .non)) (sSeq (sFor (iAny (eVar 0)) (tgN 3) (sSeq (sAsg 4 (eOwn sem_along [] (aCons (eVar 3) (aCons (eVar 1) aNil)))) (sSeq (sIf (tOrT (tOf (eBin gIs (eVar 2) (eLit .non))) (tTru (eOwn sem_less [] (aCons (eVar 2) (aCons (eVar 4) aNil))))) (sSeq (sAsg 2 (eVar 4)) sNx) sNx) (sKill 3 (sKill 4 sNx))))) (sRet (eVar 2))))
noncomputable def sem_reach : Sem' := semOf 5 [] F_reach
noncomputable def F_is_fraction : Fs :=
  (sSeq (sIf (tOrT (tNotT (tTru (eUn (gIsi "tuple") (eVar 0)))) (tOf (eBin gNe (eCall gLen (aCons (eVar 0) aNil)) (eLit (.int 2))))) (sRet (eLit (.bl false))) sNx) (sSeq (sFor (iAny (eVar 0)) (tgN 1) (sSeq (sIf (tOrT (tNotT (tTru (eUn (gIsi "int") (eVar 1)))) (tTru (eUn (gIsi "bool") (eVar 1)))) (sRet (eLit (.bl false))) sNx) (sKill 1 sNx))) (sRet (eAnd (eBin gGt (eBin gIx (eVar 0) (eLit (.int 1))) (eLit (.int 0))) (eBin gEq (eCall gGcd (aCons (eBin gIx (eVar 0) (eLit (.int 0))) (aCons (eBin gIx (eVar 0) (eLit (.int 1))) aNil))) (eLit (.int 1)))))))
noncomputable def sem_is_fraction : Sem' := semOf 2 [] F_is_fraction
noncomputable def F_is_point : Fs :=
  (sRet (eAnd (eUn (gIsi "tuple") (eVar 0)) (eAnd (eBin gEq (eCall gLen (aCons (eVar 0) aNil)) (eLit (.int 2))) (eCall gAll (aCons (eComp [1] (iAny (eVar 0)) (tgN 1) tYesT (eOwn sem_is_fraction [] (aCons (eVar 1) aNil))) aNil)))))
noncomputable def sem_is_point : Sem' := semOf 2 [] F_is_point
noncomputable def F_is_shape : Fs :=
  (sSeq (sIf (tOrT (tNotT (tTru (eUn (gIsi "list") (eVar 0)))) (tOrT (tNotT (tTru (eVar 0))) (tNotT (tTru (eCall gAll (aCons (eComp [1] (iAny (eVar 0)) (tgN 1) tYesT (eOwn sem_is_point [] (aCons (eVar 1) aNil))) aNil)))))) (sRet (eLit (.bl false))) sNx) (sRet (eBin gEq (eOwn sem_hull [] (aCons (eVar 0) aNil)) (eVar 0))))
noncomputable def sem_is_shape : Sem' := semOf 2 [] F_is_shape
noncomputable def F_judge_hull : Fs :=
  (sRet (eBin gEq (eOwn sem_hull [] (aCons (eVar 0) aNil)) (eVar 1)))
noncomputable def sem_judge_hull : Sem' := semOf 2 [] F_judge_hull
noncomputable def F__law_gcd : Fs :=
  (sSeq (sAsg 0 (eCall gAbs (aCons (eVar 0) aNil))) (sSeq (sAsg 1 (eCall gAbs (aCons (eVar 1) aNil))) (sSeq (sFor (iR1 (aCons (eLit (.int 400)) aNil)) (tgN 2) (sSeq (sIf (tOf (eBin gEq (eVar 1) (eLit (.int 0)))) (sKill 2 sBrk) sNx) (sSeq (sPar 0 1 (aCons (eVar 1) (aCons (eBin gMod (eCall gInt (aCons (eVar 0) aNil)) (eVar 1)) aNil))) (sKill 2 sNx)))) (sRet (eVar 0)))))
noncomputable def sem__law_gcd : Sem' := semOf 3 [] F__law_gcd
noncomputable def F__law_frac : Fs :=
  (sSeq (sAsg 2 (eOwn sem__law_gcd [] (aCons (eVar 0) (aCons (eVar 1) aNil)))) (sSeq (sIf (tOf (eBin gLt (eVar 1) (eLit (.int 0)))) (sSeq (sAsg 2 (eUn gNeg (eVar 2))) sNx) sNx) (sRet (eTup (aCons (eBin gDiv (eVar 0) (eVar 2)) (aCons (eBin gDiv (eVar 1) (eVar 2)) aNil))))))
noncomputable def sem__law_frac : Sem' := semOf 3 [] F__law_frac
noncomputable def F__law_plus : Fs :=
  (sRet (eOwn sem__law_frac [] (aCons (eBin gAdd (eBin gMul (eBin gIx (eVar 0) (eLit (.int 0))) (eBin gIx (eVar 1) (eLit (.int 1)))) (eBin gMul (eBin gIx (eVar 1) (eLit (.int 0))) (eBin gIx (eVar 0) (eLit (.int 1))))) (aCons (eBin gMul (eBin gIx (eVar 0) (eLit (.int 1))) (eBin gIx (eVar 1) (eLit (.int 1)))) aNil))))
noncomputable def sem__law_plus : Sem' := semOf 2 [] F__law_plus
noncomputable def F__law_times : Fs :=
  (sRet (eOwn sem__law_frac [] (aCons (eBin gMul (eBin gIx (eVar 0) (eLit (.int 0))) (eBin gIx (eVar 1) (eLit (.int 0)))) (aCons (eBin gMul (eBin gIx (eVar 0) (eLit (.int 1))) (eBin gIx (eVar 1) (eLit (.int 1)))) aNil))))
noncomputable def sem__law_times : Sem' := semOf 2 [] F__law_times
noncomputable def F__law_under : Fs :=
  (sRet (eBin gLt (eBin gMul (eBin gIx (eVar 0) (eLit (.int 0))) (eBin gIx (eVar 1) (eLit (.int 1)))) (eBin gMul (eBin gIx (eVar 1) (eLit (.int 0))) (eBin gIx (eVar 0) (eLit (.int 1))))))
noncomputable def sem__law_under : Sem' := semOf 2 [] F__law_under
noncomputable def F__law_minus : Fs :=
  (sRet (eOwn sem__law_plus [] (aCons (eVar 0) (aCons (eTup (aCons (eUn gNeg (eBin gIx (eVar 1) (eLit (.int 0)))) (aCons (eBin gIx (eVar 1) (eLit (.int 1))) aNil))) aNil))))
noncomputable def sem__law_minus : Sem' := semOf 2 [] F__law_minus
noncomputable def F__law_over : Fs :=
  (sRet (eOwn sem__law_frac [] (aCons (eBin gMul (eBin gIx (eVar 0) (eLit (.int 0))) (eBin gIx (eVar 1) (eLit (.int 1)))) (aCons (eBin gMul (eBin gIx (eVar 0) (eLit (.int 1))) (eBin gIx (eVar 1) (eLit (.int 0)))) aNil))))
noncomputable def sem__law_over : Sem' := semOf 2 [] F__law_over
noncomputable def F__law_number : Fs :=
  (sSeq (sAsg 2 (eOwn sem__law_pick [0] (aIo 0 (aCons (eLst (aCons (eLit (.int 1)) (aCons (eLit (.int 1)) (aCons (eLit (.int 1)) (aCons (eLit (.int 2)) (aCons (eLit (.int 3)) aNil)))))) aNil)))) (sRet (eOwn sem__law_frac [] (aCons (eBin gSub (eOwn sem__law_draw [0] (aIo 0 (aCons (eBin gAdd (eBin gMul (eBin gMul (eLit (.int 2)) (eVar 1)) (eVar 2)) (eLit (.int 1))) aNil))) (eBin gMul (eVar 1) (eVar 2))) (aCons (eVar 2) aNil)))))
noncomputable def sem__law_number : Sem' := semOf 3 [0] F__law_number
noncomputable def F__law_point : Fs :=
  (sRet (eTup (aCons (eOwn sem__law_number [0] (aIo 0 (aCons (eVar 1) aNil))) (aCons (eOwn sem__law_number [0] (aIo 0 (aCons (eVar 1) aNil))) aNil))))
noncomputable def sem__law_point : Sem' := semOf 2 [0] F__law_point
noncomputable def F__law_points : Fs :=
  (sSeq (sAsg 3 (eLst aNil)) (sSeq (sFor (iR1 (aCons (eBin gAdd (eLit (.int 1)) (eOwn sem__law_draw [0] (aIo 0 (aCons (eVar 1) aNil)))) aNil)) (tgN 4) (sSeq (sDrop (eOwn sem__law_next [0] (aIo 0 aNil))) (sSeq (sDrop (eMut 3 isL gApp (aCons (eOwn sem__law_point [0] (aIo 0 (aCons (eVar 2) aNil))) aNil))) (sKill 4 sNx)))) (sSeq (sIf (tAndT (tOf (eBin gGt (eCall gLen (aCons (eVar 3) aNil)) (eLit (.int 2)))) (tOf (eBin gEq (eOwn sem__law_draw [0] (aIo 0 (aCons (eLit (.int 4)) aNil))) (eLit (.int 0))))) (sSeq (sAsg 3 (eComp [5] (iSeq (eVar 3)) (tgN 5) tYesT (eTup (aCons (eBin gIx (eVar 5) (eLit (.int 0))) (aCons (eBin gIx (eVar 5) (eLit (.int 0))) aNil))))) sNx) sNx) (sRet (eVar 3)))))
noncomputable def sem__law_points : Sem' := semOf 6 [0] F__law_points
noncomputable def F__law_turn : Fs :=
  (sSeq (sAsg 3 (eOwn sem__law_times [] (aCons (eOwn sem__law_minus [] (aCons (eBin gIx (eVar 1) (eLit (.int 0))) (aCons (eBin gIx (eVar 0) (eLit (.int 0))) aNil))) (aCons (eOwn sem__law_minus [] (aCons (eBin gIx (eVar 2) (eLit (.int 1))) (aCons (eBin gIx (eVar 0) (eLit (.int 1))) aNil))) aNil)))) (sRet (eBin gIx (eOwn sem__law_minus [] (aCons (eVar 3) (aCons (eOwn sem__law_times [] (aCons (eOwn sem__law_minus [] (aCons (eBin gIx (eVar 1) (eLit (.int 1))) (aCons (eBin gIx (eVar 0) (eLit (.int 1))) aNil))) (aCons (eOwn sem__law_minus [] (aCons (eBin gIx (eVar 2) (eLit (.int 0))) (aCons (eBin gIx (eVar 0) (eLit (.int 0))) aNil))) aNil))) aNil))) (eLit (.int 0)))))
noncomputable def sem__law_turn : Sem' := semOf 4 [] F__law_turn
noncomputable def F__law_on : Fs :=
  (sSeq (sIf (tOf (eBin gNe (eOwn sem__law_turn [] (aCons (eVar 0) (aCons (eVar 1) (aCons (eVar 2) aNil)))) (eLit (.int 0)))) (sRet (eLit (.bl false))) sNx) (sSeq (sFor (iR1 (aCons (eLit (.int 2)) aNil)) (tgN 3) (sSeq (sIf (tOrT (tAndT (tTru (eOwn sem__law_under [] (aCons (eBin gIx (eVar 2) (eVar 3)) (aCons (eBin gIx (eVar 0) (eVar 3)) aNil)))) (tTru (eOwn sem__law_under [] (aCons (eBin gIx (eVar 2) (eVar 3)) (aCons (eBin gIx (eVar 1) (eVar 3)) aNil))))) (tAndT (tTru (eOwn sem__law_under [] (aCons (eBin gIx (eVar 0) (eVar 3)) (aCons (eBin gIx (eVar 2) (eVar 3)) aNil)))) (tTru (eOwn sem__law_under [] (aCons (eBin gIx (eVar 1) (eVar 3)) (aCons (eBin gIx (eVar 2) (eVar 3)) aNil)))))) (sRet (eLit (.bl false))) sNx) (sKill 3 sNx))) (sRet (eLit (.bl true)))))
noncomputable def sem__law_on : Sem' := semOf 4 [] F__law_on
noncomputable def F__law_inside : Fs :=
  (sSeq (sFor (iR1 (aCons (eCall gLen (aCons (eVar 0) aNil)) aNil)) (tgN 2) (sSeq (sFor (iR2 (aCons (eVar 2) (aCons (eCall gLen (aCons (eVar 0) aNil)) aNil))) (tgN 3) (sSeq (sIf (tTru (eOwn sem__law_on [] (aCons (eBin gIx (eVar 0) (eVar 2)) (aCons (eBin gIx (eVar 0) (eVar 3)) (aCons (eVar 1) aNil))))) (sRet (eLit (.bl true))) sNx) (sSeq (sFor (iR2 (aCons (eBin gAdd (eVar 3) (eLit (.int 1))) (aCons (eCall gLen (aCons (eVar 0) aNil)) aNil))) (tgN 4) (sSeq (sAsg 5 (eLst (aCons (eOwn sem__law_turn [] (aCons (eBin gIx (eVar 0) (eVar 2)) (aCons (eBin gIx (eVar 0) (eVar 3)) (aCons (eVar 1) aNil)))) (aCons (eOwn sem__law_turn [] (aCons (eBin gIx (eVar 0) (eVar 3)) (aCons (eBin gIx (eVar 0) (eVar 4)) (aCons (eVar 1) aNil)))) (aCons (eOwn sem__law_turn [] (aCons (eBin gIx (eVar 0) (eVar 4)) (aCons (eBin gIx (eVar 0) (eVar 2)) (aCons (eVar 1) aNil)))) aNil))))) (sSeq (sIf (tAndT (tOf (eBin gNe (eOwn sem__law_turn [] (aCons (eBin gIx (eVar 0) (eVar 2)) (aCons (eBin gIx (eVar 0) (eVar 3)) (aCons (eBin gIx (eVar 0) (eVar 4)) aNil)))) (eLit (.int 0)))) (tOrT (tOf (eBin gGe (eCall gMinL (aCons (eVar 5) aNil)) (eLit (.int 0)))) (tOf (eBin gLe (eCall gMaxL (aCons (eVar 5) aNil)) (eLit (.int 0)))))) (sRet (eLit (.bl true))) sNx) sNx))) sNx))) (sKill 2 (sKill 3 (sKill 4 (sKill 5 sNx)))))) (sRet (eLit (.bl false))))
noncomputable def sem__law_inside : Sem' := semOf 6 [] F__law_inside
noncomputable def F__law_sooner : Fs :=
  (sRet (eOr (eOwn sem__law_under [] (aCons (eBin gIx (eVar 0) (eLit (.int 0))) (aCons (eBin gIx (eVar 1) (eLit (.int 0))) aNil))) (eAnd (eBin gEq (eBin gIx (eVar 0) (eLit (.int 0))) (eBin gIx (eVar 1) (eLit (.int 0)))) (eOwn sem__law_under [] (aCons (eBin gIx (eVar 0) (eLit (.int 1))) (aCons (eBin gIx (eVar 1) (eLit (.int 1))) aNil))))))
noncomputable def sem__law_sooner : Sem' := semOf 2 [] F__law_sooner
noncomputable def F__law_corners : Fs :=
  (sSeq (sAsg 1 (eLst aNil)) (sSeq (sFor (iAny (eVar 0)) (tgN 2) (sSeq (sIf (tOf (eBin gNotIn (eVar 2) (eVar 1))) (sSeq (sDrop (eMut 1 isL gApp (aCons (eVar 2) aNil))) sNx) sNx) sNx)) (sSeq (sAsg 3 (eLst aNil)) (sSeq (sFor (iAny (eVar 1)) (tgN 2) (sSeq (sAsg 4 (eComp [5] (iAny (eVar 1)) (tgN 5) (tOf (eBin gNe (eVar 5) (eVar 2))) (eVar 5))) (sSeq (sIf (tNotT (tTru (eOwn sem__law_inside [] (aCons (eVar 4) (aCons (eVar 2) aNil))))) (sSeq (sDrop (eMut 3 isL gApp (aCons (eVar 2) aNil))) sNx) sNx) (sKill 2 (sKill 4 sNx))))) (sRet (eVar 3))))))
noncomputable def sem__law_corners : Sem' := semOf 6 [] F__law_corners
noncomputable def F__law_along : Fs :=
  (sRet (eOwn sem__law_plus [] (aCons (eOwn sem__law_times [] (aCons (eBin gIx (eVar 0) (eLit (.int 0))) (aCons (eBin gIx (eVar 1) (eLit (.int 0))) aNil))) (aCons (eOwn sem__law_times [] (aCons (eBin gIx (eVar 0) (eLit (.int 1))) (aCons (eBin gIx (eVar 1) (eLit (.int 1))) aNil))) aNil))))
noncomputable def sem__law_along : Sem' := semOf 2 [] F__law_along
noncomputable def F__law_reach : Fs :=
  (sSeq (sAsg 2 (eLit .non)) (sSeq (sFor (iAny (eVar 0)) (tgN 3) (sSeq (sAsg 4 (eOwn sem__law_along [] (aCons (eVar 3) (aCons (eVar 1) aNil)))) (sSeq (sIf (tOrT (tOf (eBin gIs (eVar 2) (eLit .non))) (tTru (eOwn sem__law_under [] (aCons (eVar 2) (aCons (eVar 4) aNil))))) (sSeq (sAsg 2 (eVar 4)) sNx) sNx) (sKill 3 (sKill 4 sNx))))) (sRet (eVar 2))))
noncomputable def sem__law_reach : Sem' := semOf 5 [] F__law_reach
noncomputable def F__law_area : Fs :=
  (sSeq (sAsg 1 (eTup (aCons (eLit (.int 0)) (aCons (eLit (.int 1)) aNil)))) (sSeq (sFor (iR1 (aCons (eCall gLen (aCons (eVar 0) aNil)) aNil)) (tgN 2) (sSeq (sAsg 3 (eBin gIx (eVar 0) (eBin gSub (eVar 2) (eLit (.int 1))))) (sSeq (sAsg 4 (eBin gIx (eVar 0) (eVar 2))) (sSeq (sAsg 1 (eOwn sem__law_plus [] (aCons (eVar 1) (aCons (eOwn sem__law_minus [] (aCons (eOwn sem__law_times [] (aCons (eBin gIx (eVar 3) (eLit (.int 0))) (aCons (eBin gIx (eVar 4) (eLit (.int 1))) aNil))) (aCons (eOwn sem__law_times [] (aCons (eBin gIx (eVar 4) (eLit (.int 0))) (aCons (eBin gIx (eVar 3) (eLit (.int 1))) aNil))) aNil))) aNil)))) (sKill 2 (sKill 3 (sKill 4 sNx))))))) (sRet (eOwn sem__law_over [] (aCons (eVar 1) (aCons (eTup (aCons (eLit (.int 2)) (aCons (eLit (.int 1)) aNil))) aNil))))))
noncomputable def sem__law_area : Sem' := semOf 5 [] F__law_area
noncomputable def F__law_is_shape : Fs :=
  (sSeq (sIf (tOrT (tNotT (tTru (eUn (gIsi "list") (eVar 0)))) (tOf (eBin gEq (eVar 0) (eLst aNil)))) (sRet (eLit (.bl false))) sNx) (sSeq (sFor (iAny (eVar 0)) (tgN 1) (sSeq (sIf (tOrT (tNotT (tTru (eUn (gIsi "tuple") (eVar 1)))) (tOf (eBin gNe (eCall gLen (aCons (eVar 1) aNil)) (eLit (.int 2))))) (sRet (eLit (.bl false))) sNx) (sSeq (sFor (iAny (eVar 1)) (tgN 2) (sSeq (sIf (tOrT (tNotT (tTru (eUn (gIsi "tuple") (eVar 2)))) (tOrT (tOf (eBin gNe (eCall gLen (aCons (eVar 2) aNil)) (eLit (.int 2)))) (tOrT (tNotT (tTru (eUn (gIsi "int") (eBin gIx (eVar 2) (eLit (.int 0)))))) (tNotT (tTru (eUn (gIsi "int") (eBin gIx (eVar 2) (eLit (.int 1))))))))) (sRet (eLit (.bl false))) sNx) (sSeq (sIf (tOrT (tTru (eUn (gIsi "bool") (eBin gIx (eVar 2) (eLit (.int 0))))) (tOrT (tOf (eBin gLt (eBin gIx (eVar 2) (eLit (.int 1))) (eLit (.int 1)))) (tOf (eBin gNe (eOwn sem__law_gcd [] (aCons (eBin gIx (eVar 2) (eLit (.int 0))) (aCons (eBin gIx (eVar 2) (eLit (.int 1))) aNil))) (eLit (.int 1)))))) (sRet (eLit (.bl false))) sNx) sNx))) (sKill 2 sNx)))) (sSeq (sIf (tOrT (tOf (eBin gGt (eCall gLen (aCons (eComp [3] (iR1 (aCons (eCall gLen (aCons (eVar 0) aNil)) aNil)) (tgN 3) (tOf (eBin gIn (eBin gIx (eVar 0) (eVar 3)) (eSl gSl (eVar 0) oNone (oSome (eVar 3))))) (eVar 3)) aNil)) (eLit (.int 0)))) (tOf (eBin gNe (eCall gLen (aCons (eOwn sem__law_corners [] (aCons (eVar 0) aNil)) aNil)) (eCall gLen (aCons (eVar 0) aNil))))) (sRet (eLit (.bl false))) sNx) (sSeq (sIf (tOf (eBin gGt (eCall gLen (aCons (eComp [1] (iAny (eSl gSl (eVar 0) (oSome (eLit (.int 1))) oNone)) (tgN 1) (tTru (eOwn sem__law_sooner [] (aCons (eVar 1) (aCons (eBin gIx (eVar 0) (eLit (.int 0))) aNil)))) (eVar 1)) aNil)) (eLit (.int 0)))) (sRet (eLit (.bl false))) sNx) (sRet (eOr (eBin gLt (eCall gLen (aCons (eVar 0) aNil)) (eLit (.int 3))) (eBin gGt (eCall gMinL (aCons (eComp [3] (iR1 (aCons (eCall gLen (aCons (eVar 0) aNil)) aNil)) (tgN 3) tYesT (eOwn sem__law_turn [] (aCons (eBin gIx (eVar 0) (eBin gSub (eVar 3) (eLit (.int 2)))) (aCons (eBin gIx (eVar 0) (eBin gSub (eVar 3) (eLit (.int 1)))) (aCons (eBin gIx (eVar 0) (eVar 3)) aNil))))) aNil)) (eLit (.int 0)))))))))
noncomputable def sem__law_is_shape : Sem' := semOf 4 [] F__law_is_shape
/-! points as data -/
def pT (p : P) : T := .tup [qT p.1, qT p.2]
def pL (l : List P) : T := .lst (l.map pT)
def Zp (n : Nat) (p : P) : Prop := Sz n p.1 ∧ Sz n p.2
theorem Zp.mono {n m : Nat} {p : P} (h : Zp n p) (k : n ≤ m) : Zp m p := ⟨h.1.mono k, h.2.mono k⟩
theorem eqT_pT {a b : P} : eqT (pT a) (pT b) = decide (a = b) := by
  unfold pT
  rw [eqT_tup]
  simp only [eqAll_cons, eqAll_nil, eqT_qT, Bool.and_true]
  rw [← Bool.decide_and]
  refine decide_eq_decide.mpr ⟨fun h => Prod.ext h.1 h.2, fun h => by rw [h]; exact ⟨rfl, rfl⟩⟩
theorem okT_pT {a : P} : okT (pT a) = true := rfl
theorem okT_qT {a : Rat} : okT (qT a) = true := rfl
theorem okT_pL {l : List P} : okT (pL l) = true := by
  show okN 60 (.lst (l.map pT)) = true
  unfold okN
  rw [List.all_eq_true]
  intro t ht
  obtain ⟨p, _, rfl⟩ := List.mem_map.mp ht
  rfl
end LawS

namespace LawS
open Tw L2 LawP Hl
section
variable {a b c : P} {l : List P}
theorem r_eqQ {x y : Rat} : gEq (qT x) (qT y) = some (.bl (decide (x = y))) := by
  unfold gEq
  rw [okT_qT, okT_qT, eqT_qT]; rfl
theorem r_neQ {x y : Rat} : gNe (qT x) (qT y) = some (.bl (!decide (x = y))) := by
  unfold gNe
  rw [okT_qT, okT_qT, eqT_qT]; rfl
theorem r_eqP : gEq (pT a) (pT b) = some (.bl (decide (a = b))) := by
  unfold gEq
  rw [okT_pT, okT_pT, eqT_pT]; rfl
theorem r_neP : gNe (pT a) (pT b) = some (.bl (!decide (a = b))) := by
  unfold gNe
  rw [okT_pT, okT_pT, eqT_pT]; rfl
theorem eqT_all : ∀ (l m : List P), PySem.PyData.eqvAll (toDs (l.map pT)) (toDs (m.map pT)) = decide (l = m)
  | [], [] => by simp [toDs, PySem.PyData.eqvAll]
  | [], _ :: _ => by simp [toDs, PySem.PyData.eqvAll]
  | _ :: _, [] => by simp [toDs, PySem.PyData.eqvAll]
  | x :: a, y :: b => by
    rw [List.map_cons, List.map_cons, eqAll_cons, eqT_all a b, eqT_pT, ← Bool.decide_and]
    exact decide_eq_decide.mpr (by simp)
theorem eqT_pL {m : List P} : eqT (pL l) (pL m) = decide (l = m) := by
  unfold pL
  rw [eqT_lst, eqT_all]
theorem r_eqL {m : List P} : gEq (pL l) (pL m) = some (.bl (decide (l = m))) := by
  unfold gEq
  rw [okT_pL, okT_pL, eqT_pL]; rfl
theorem r_neL {m : List P} : gNe (pL l) (pL m) = some (.bl (!decide (l = m))) := by
  unfold gNe
  rw [okT_pL, okT_pL, eqT_pL]; rfl
theorem any_pT : ((l.map pT).any fun z => eqT z (pT a)) = decide (a ∈ l) := by
  induction l with
  | nil => simp
  | cons x l ih =>
    rw [List.map_cons, List.any_cons, ih, eqT_pT, ← Bool.decide_or]
    exact decide_eq_decide.mpr (by rw [List.mem_cons]; exact or_congr_left eq_comm)
theorem r_inP : gIn (pT a) (pL l) = some (.bl (decide (a ∈ l))) := by
  show (if okT (pT a) && okT (pL l) then some (T.bl ((l.map pT).any fun z => eqT z (pT a))) else none) = _
  rw [okT_pT, okT_pL, any_pT]; rfl
theorem r_ninP : gNotIn (pT a) (pL l) = some (.bl (!decide (a ∈ l))) := by
  show (if okT (pT a) && okT (pL l) then some (T.bl (!(l.map pT).any fun z => eqT z (pT a))) else none) = _
  rw [okT_pT, okT_pL, any_pT]; rfl
theorem ixP0 : gIx (pT a) (.int 0) = some (qT a.1) := atI_0
theorem ixP1 : gIx (pT a) (.int 1) = some (qT a.2) := atI_1
theorem ixQ0 {x : Rat} : gIx (qT x) (.int 0) = some (.int x.num) := atI_0
theorem ixQ1 {x : Rat} : gIx (qT x) (.int 1) = some (.int x.den) := atI_1
theorem lenP : gLen [pL l] = some (.int (l.length : Nat)) := by
  show some (T.int ((l.map pT).length : Nat)) = _
  rw [List.length_map]
theorem ixL {k : Nat} (h : k < l.length) : gIx (pL l) (.int (k : Int)) = some (pT (g l k)) := by
  show atI (l.map pT) (k : Int) = _
  refine atI_nat ?_
  unfold g
  rw [List.getElem?_map, List.getElem?_eq_getElem h, List.getD_eq_getElem?_getD, List.getElem?_eq_getElem h]
  rfl
theorem ixLi {i : Int} (h0 : 0 ≤ i) (h : i < l.length) : gIx (pL l) (.int i) = some (pT (g l i.toNat)) := by
  obtain ⟨k, rfl⟩ := Int.eq_ofNat_of_zero_le h0
  exact ixL (by omega)
theorem ixC {i : Int} (h0 : -(l.length : Int) ≤ i) (h : i < l.length) : gIx (pL l) (.int i) = some (pT (cy l (i + l.length).toNat)) := by
  by_cases c : 0 ≤ i
  · rw [ixLi c h, show (i + l.length).toNat = i.toNat + l.length by omega, cy_per, cy_lt (by omega)]
  · show atI (l.map pT) i = _
    have e : atI (l.map pT) i = (l.map pT)[(i + l.length).toNat]? := by
      unfold atI ixN
      simp only [List.length_map]
      rw [if_neg (by omega), if_pos (by omega)]
      simp only [Option.bind_some]
    rw [e, cy_lt (by omega)]
    unfold g
    have hk : (i + l.length).toNat < l.length := by omega
    rw [List.getElem?_map, List.getElem?_eq_getElem hk, List.getD_eq_getElem?_getD, List.getElem?_eq_getElem hk]
    rfl
theorem sliceP {lo hi : Option Int} : gSl (pL l) lo hi = some (pL (cutT l lo hi)) := by
  show some (T.lst (cutT (l.map pT) lo hi)) = _
  rw [cutT_map]
  rfl
theorem sliceN {lo hi : Option Int} : gSlN (pL l) lo hi = some (pL (cutT l lo hi)) := sliceP
theorem cut_none_neg {α : Type} {l : List α} : cutT l none (some (-1)) = l.dropLast := by
  unfold cutT
  rw [HT.sIx_none]
  rw [List.drop_zero, Nat.sub_zero, List.dropLast_eq_take]
  congr 1
  unfold HT.sIx
  simp
  omega
theorem cut_to {α : Type} {c : List α} {p : Nat} : cutT c none (some (p : Int)) = c.take p := by
  unfold cutT
  rw [HT.sIx_none, HT.sIx_nat, List.drop_zero, Nat.sub_zero, List.take_eq_take_iff.mpr]
  omega
theorem cut_from {α : Type} {c : List α} {p : Nat} : cutT c (some (p : Int)) none = c.drop p := by
  unfold cutT
  rw [HT.sIx_none, HT.sIx_nat]
  by_cases h : p ≤ c.length
  · rw [Nat.min_eq_left h, List.take_of_length_le]
    rw [List.length_drop]
    exact Nat.le_refl _
  · rw [Nat.min_eq_right (by omega), List.drop_eq_nil_of_le (Nat.le_refl _), List.drop_eq_nil_of_le (by omega)]
    simp
theorem slTo {p : Nat} : gSl (pL l) none (some (p : Int)) = some (pL (l.take p)) := by rw [sliceP, cut_to]
theorem slFrom {p : Nat} : gSl (pL l) (some (p : Int)) none = some (pL (l.drop p)) := by rw [sliceP, cut_from]
theorem addL {m : List P} (h : l.length + m.length ≤ 16777216) : gAdd (pL l) (pL m) = some (pL (l ++ m)) := by
  show gAdd (.lst (l.map pT)) (.lst (m.map pT)) = _
  rw [r_addL, if_pos (by rw [List.length_map, List.length_map, sizeLine_eq]; exact h), ← List.map_append]
  rfl
theorem one1 : T.lst [pT a] = pL [a] := rfl
theorem nil1 : T.lst [] = pL [] := rfl
theorem revP : gRev (pL l) = some (pL l.reverse) := by
  show some (T.lst (l.map pT).reverse) = _
  rw [← List.map_reverse]
  rfl
theorem appP (h : l.length < 16777216) : gApp (pL l) [pT a] = some (.non, pL (l ++ [a])) := by
  show gApp (.lst (l.map pT)) [pT a] = _
  rw [r_app, if_pos (by rw [List.length_map, sizeLine_eq]; exact h)]
  simp [pL]
theorem isLP : isL (pL l) = true := rfl
theorem slLast : gSl (pL l) none (some (-1)) = some (pL l.dropLast) := by rw [sliceP, cut_none_neg]
theorem slLastN : gSlN (pL l) none (some (-1)) = some (pL l.dropLast) := by rw [sliceN, cut_none_neg]
theorem qT_0 : T.tup [.int 0, .int 1] = qT 0 := (qT_int 0).symm
theorem sAP : sA (pL l) = some (l.map pT) := rfl
theorem sLP : sL (pL l) = some (l.map pT) := rfl
end
end LawS

namespace LawS
open Tw L2 LawP Hl
section
variable {a b c : P} {l : List P} {n m : Nat}
theorem less_spec {a b : Rat} (ha : Sz n a) (hb : Sz m b) (h : n + m + 1 ≤ 9000) : sem_less [qT a, qT b] = some (.bl (decide (a < b)), []) := by
  refine wc_eq ?_
  unfold sem_less F_less
  dsimp? [ixQ0, ixQ1, ok_nd ha hb h, ok_nd hb ha (by omega)]
  congr 1
  exact decide_eq_decide.mpr (Rat.lt_iff a b).symm
theorem sz_cr (ha : Zp n a) (hb : Zp n b) (hc : Zp n c) : Sz (8 * n + 5) (cr a b c) :=
  (sz_sub (sz_mul (sz_sub hb.1 ha.1) (sz_sub hc.2 ha.2)) (sz_mul (sz_sub hb.2 ha.2) (sz_sub hc.1 ha.1))).mono (by omega)
theorem turn_spec (ha : Zp n a) (hb : Zp n b) (hc : Zp n c) (h : 8 * n + 5 ≤ 9000) : sem_turn [pT a, pT b, pT c] = some (qT (cr a b c), []) := by
  refine wc_eq ?_
  unfold sem_turn F_turn
  have s1 := sz_sub hb.1 ha.1
  have s2 := sz_sub hc.2 ha.2
  have s3 := sz_sub hb.2 ha.2
  have s4 := sz_sub hc.1 ha.1
  dsimp? [ixP0, ixP1, minus_spec hb.1 ha.1 (by omega), minus_spec hc.2 ha.2 (by omega), minus_spec hb.2 ha.2 (by omega), minus_spec hc.1 ha.1 (by omega), times_spec s1 s2 (by omega), times_spec s3 s4 (by omega), minus_spec (sz_mul s1 s2) (sz_mul s3 s4) (by omega)]
  rfl
theorem sooner_spec (ha : Zp n a) (hb : Zp n b) (h : 2 * n + 1 ≤ 9000) : sem_sooner [pT a, pT b] = some (.bl (decide (lt a b)), []) := by
  refine wc_eq ?_
  unfold sem_sooner F_sooner
  dsimp? [ixP0, ixP1, less_spec ha.1 hb.1 (by omega), less_spec ha.2 hb.2 (by omega), r_eqQ]
  refine br_d (fun h => ?_) (fun h => ?_)
  · dsimp?
    congr 1
    exact (decide_eq_true (.inl h)).symm
  · dsimp? [ixP0, ixP1, ixQ0, ixQ1, r_eqP, r_neP, r_eqQ, r_neQ, r_eqL, r_neL, r_inP, r_ninP, lenP, slTo, slFrom, slLast, slLastN, revP, isLP, sAP, sLP, qT_0]
    refine br_d (fun h2 => ?_) (fun h2 => ?_)
    · dsimp? [ixP0, ixP1, ixQ0, ixQ1, r_eqP, r_neP, r_eqQ, r_neQ, r_eqL, r_neL, r_inP, r_ninP, lenP, slTo, slFrom, slLast, slLastN, revP, isLP, sAP, sLP, qT_0, less_spec ha.2 hb.2 (by omega)]
      congr 1
      exact decide_eq_decide.mpr ⟨fun k => .inr ⟨h2, k⟩, fun k => k.elim (fun k => absurd k h) (·.2)⟩
    · dsimp? [ixP0, ixP1, ixQ0, ixQ1, r_eqP, r_neP, r_eqQ, r_neQ, r_eqL, r_neL, r_inP, r_ninP, lenP, slTo, slFrom, slLast, slLastN, revP, isLP, sAP, sLP, qT_0]
      congr 1
      exact (decide_eq_false (p := lt a b) fun k => k.elim h fun k => h2 k.1).symm
theorem al_lin (p d : P) : d.1 * p.1 + d.2 * p.2 = p.1 * d.1 + p.2 * d.2 := by grind
def al (p d : P) : Rat := d.1 * p.1 + d.2 * p.2
theorem sz_al (ha : Zp n a) (hb : Zp n b) : Sz (4 * n + 1) (al a b) := (sz_add (sz_mul hb.1 ha.1) (sz_mul hb.2 ha.2)).mono (by omega)
theorem along_spec (ha : Zp n a) (hb : Zp n b) (h : 4 * n + 1 ≤ 9000) : sem_along [pT a, pT b] = some (qT (al a b), []) := by
  refine wc_eq ?_
  unfold sem_along F_along
  dsimp? [ixP0, ixP1, times_spec hb.1 ha.1 (by omega), times_spec hb.2 ha.2 (by omega), plus_spec (sz_mul hb.1 ha.1) (sz_mul hb.2 ha.2) (by omega)]
  rfl
end
/-! in order -/
theorem g_take {l : List P} {i k : Nat} (h : i < k) : g (l.take k) i = g l i := by
  unfold g
  rw [List.getD_eq_getElem?_getD, List.getElem?_take, if_pos h, List.getD_eq_getElem?_getD]
theorem g_drop {l : List P} {i k : Nat} : g (l.drop k) i = g l (k + i) := by
  unfold g
  rw [List.getD_eq_getElem?_getD, List.getElem?_drop, List.getD_eq_getElem?_getD]
theorem ins_at {f : List P} {p : P} {k : Nat} (hf : f.Pairwise lt) (h1 : ∀ i, i < k → lt (g f i) p) (h2 : ∀ i, k ≤ i → i < f.length → ¬ lt (g f i) p) (hk : k ≤ f.length) (h3 : k = f.length ∨ g f k ≠ p) : f.take k ++ [p] ++ f.drop k = ins f p := by
  have pd : ∀ x ∈ f.drop k, lt p x := fun x hx => by
    obtain ⟨i, hi, rfl⟩ := mem_g hx
    rw [List.length_drop] at hi
    rw [g_drop]
    have c := h2 (k + i) (by omega) (by omega)
    have c0 := h2 k (by omega) (by omega)
    have n0 : g f k ≠ p := h3.resolve_left (by omega)
    have p0 : lt p (g f k) := by
      rcases lt_tri (g f k) p with a | a | a
      · exact absurd a c0
      · exact absurd a n0
      · exact a
    by_cases z : i = 0
    · rw [z]; exact p0
    · exact lt_tr p0 (pw_g hf k (k + i) (by omega) (by omega))
  refine lt_uniq ?_ (ins_pw hf p) fun x => ?_
  · rw [List.append_assoc, List.pairwise_append]
    refine ⟨hf.sublist (List.take_sublist k f), List.pairwise_append.mpr ⟨by simp, hf.sublist (List.drop_sublist k f), fun a ha b hb => by rw [List.mem_singleton.mp ha]; exact pd b hb⟩, ?_⟩
    intro a ha b hb
    obtain ⟨i, hi, rfl⟩ := mem_g ha
    rw [List.length_take] at hi
    rw [g_take (by omega)]
    have a1 := h1 i (by omega)
    rcases List.mem_append.mp hb with hb | hb
    · rw [List.mem_singleton.mp hb]; exact a1
    · exact lt_tr a1 (pd b hb)
  · rw [mem_ins, List.mem_append, List.mem_append, List.mem_singleton]
    conv => rhs; rw [← List.take_append_drop k f, List.mem_append]
    constructor
    · rintro ((h | h) | h)
      · exact .inl (.inl h)
      · exact .inr h
      · exact .inl (.inr h)
    · rintro ((h | h) | h)
      · exact .inl (.inl h)
      · exact .inr h
      · exact .inl (.inr h)
theorem ins_in {f : List P} {p : P} (hf : f.Pairwise lt) (hp : p ∈ f) : f = ins f p :=
  lt_uniq hf (ins_pw hf p) fun x => by rw [mem_ins]; exact ⟨.inl, fun h => h.elim id (fun e => by rw [e]; exact hp)⟩
theorem ord_len : ∀ (v : List P), (ord v).length ≤ v.length := by
  have key : ∀ (v f : List P), (v.foldl ins f).length ≤ f.length + v.length := by
    intro v
    induction v with
    | nil => intro f; simp
    | cons p v ih =>
      intro f
      have a := ih (ins f p)
      have b : (ins f p).length ≤ f.length + 1 := by
        unfold ins
        rw [List.length_append, List.length_cons]
        have : ∀ f : List P, (f.filter fun x => decide (lt x p)).length + (f.filter fun x => decide (lt p x)).length ≤ f.length := by
          intro f
          induction f with
          | nil => simp
          | cons x f ih =>
            have h1 : ¬ (lt x p ∧ lt p x) := fun ⟨u, w⟩ => lt_ir (lt_tr u w)
            by_cases c1 : lt x p <;> by_cases c2 : lt p x <;> simp [c1, c2] at * <;> omega
        have := this f
        omega
      rw [List.foldl_cons, List.length_cons]
      omega
  intro v
  have := key v []
  simpa [ord] using this
theorem take_ord {l : List P} {i : Nat} (h : i < l.length) : ord (l.take (i + 1)) = ins (ord (l.take i)) l[i] := by
  unfold ord
  rw [List.take_add_one, List.getElem?_eq_getElem h, List.foldl_append]
  rfl
theorem b62 {i : Nat} (h : i ≤ 100000) : (-4611686018427387904 : Int) ≤ i ∧ (i : Int) < 4611686018427387904 := by omega
theorem mid2 {a b : Nat} : ((a : Int) + (b : Int)).fdiv 2 = (((a + b) / 2 : Nat) : Int) := by
  rw [Int.fdiv_eq_ediv_of_nonneg _ (by omega)]
  omega
theorem in_order_spec {l : List P} {n : Nat} (hl : l.length ≤ 100000) (hz : ∀ p ∈ l, Zp n p) (hn : 2 * n + 1 ≤ 9000) : sem_in_order [pL l] = some (pL (ord l), []) := by
  refine wc_eq ?_
  unfold sem_in_order F_in_order pL
  dsimp?
  refine wf_map (I := fun i γ => γ = [some (pL l), some (pL (ord (l.take i))), none, none, none, none]) ?_ ?_ ?_
  · rw [List.take_zero]; rfl
  · rintro i γ hi rfl
    have lt1 := ord_len (l.take i)
    have lt2 : (l.take i).length ≤ i := by rw [List.length_take]; omega
    generalize hf : ord (l.take i) = f at *
    have hp := ord_pw (l.take i)
    rw [hf] at hp
    have hz' : ∀ p ∈ f, Zp n p := fun p h => by rw [← hf] at h; exact hz p (List.mem_of_mem_take (mem_ord.mp h))
    have hpi := hz l[i] (List.getElem_mem hi)
    dsimp? [lenP]
    refine ww_of (I := fun m γ => ∃ (lo hi' : Nat) (x5 : Option T), γ = [some (pL l), some (pL f), some (pT l[i]), some (.int lo), some (.int hi'), x5] ∧ m = hi' - lo ∧ lo ≤ hi' ∧ hi' ≤ f.length ∧ (∀ j, j < lo → lt (g f j) l[i]) ∧ ∀ j, hi' ≤ j → j < f.length → ¬ lt (g f j) l[i]) ?_ f.length ⟨0, f.length, _, rfl, by omega, by omega, by omega, fun j h => absurd h (by omega), fun j h h2 => absurd h2 (by omega)⟩
    rintro m γ ⟨lo, hi', x5, rfl, hm, h1, h2, h3, h4⟩
    dsimp?
    refine br_d (fun c => ?_) (fun c => ?_)
    · have c' : (lo + hi') / 2 < f.length := by omega
      dsimp? [mid2, ixL c', sooner_spec (hz' _ (g_mem c')) hpi hn]
      have up : ∀ j, lt (g f ((lo + hi') / 2)) l[i] → j < (lo + hi') / 2 + 1 → lt (g f j) l[i] := fun j k hj => by
        by_cases e : j = (lo + hi') / 2
        · rw [e]; exact k
        · exact lt_tr (pw_g hp _ _ (by omega) c') k
      have dn : ∀ j, ¬ lt (g f ((lo + hi') / 2)) l[i] → (lo + hi') / 2 ≤ j → j < f.length → ¬ lt (g f j) l[i] := fun j k hj hj' => by
        by_cases e : j = (lo + hi') / 2
        · rw [e]; exact k
        · exact fun q => k (lt_tr (pw_g hp _ _ (by omega) hj') q)
      refine br_d (fun d => ?_) (fun d => ?_)
      · dsimp?
        exact ⟨hi' - ((lo + hi') / 2 + 1), by omega, (lo + hi') / 2 + 1, hi', _, rfl, rfl, by omega, h2, fun j => up j d, h4⟩
      · dsimp?
        exact ⟨(lo + hi') / 2 - lo, by omega, lo, (lo + hi') / 2, _, rfl, rfl, by omega, by omega, h3, fun j => dn j d⟩
    · have e : lo = hi' := by omega
      subst e
      rw [take_ord hi, hf]
      have a1 : gAdd (pL (f.take lo)) (T.lst [pT l[i]]) = some (pL (f.take lo ++ [l[i]])) := addL (l := f.take lo) (m := [l[i]]) (by rw [List.length_take]; simp; omega)
      have a2 : gAdd (pL (f.take lo ++ [l[i]])) (pL (f.drop lo)) = some (pL (f.take lo ++ [l[i]] ++ f.drop lo)) := addL (by rw [List.length_append, List.length_take, List.length_drop]; simp; omega)
      dsimp? [lenP]
      refine br_d (fun d => ?_) (fun d => ?_)
      · dsimp? [slTo, slFrom, a1, a2]
        rw [ins_at hp h3 h4 h2 (.inl (by omega))]
      · have c' : lo < f.length := by omega
        dsimp? [ixL c', r_neP]
        refine br_d (fun d2 => ?_) (fun d2 => ?_)
        · dsimp?
          rw [← ins_in hp (by rw [← d2]; exact g_mem c')]
        · dsimp? [slTo, slFrom, a1, a2]
          rw [ins_at hp h3 h4 h2 (.inr d2)]
  · rintro γ rfl
    dsimp?
    rw [List.take_length]
    rfl
/-! borders -/
theorem push_len (p : P) : ∀ r : List P, (push p r).length ≤ r.length + 1
  | [] => by simp [push]
  | [_] => by simp [push]
  | c :: b :: r => by
    unfold push
    split
    · simp
    · have := push_len p (b :: r)
      simp only [List.length_cons] at *
      omega
def chR (l : List P) : List P := l.foldl (fun r p => push p r) []
theorem chR_len : ∀ (l : List P), (chR l).length ≤ l.length := by
  have key : ∀ (l r : List P), (l.foldl (fun r p => push p r) r).length ≤ r.length + l.length := by
    intro l
    induction l with
    | nil => intro r; simp
    | cons p l ih =>
      intro r
      have a := ih (push p r)
      have b := push_len p r
      rw [List.foldl_cons, List.length_cons]
      omega
  intro l
  have := key l []
  simpa [chR] using this
theorem mem_push {p : P} : ∀ {r : List P} {x : P}, x ∈ push p r → x = p ∨ x ∈ r
  | [], x, h => by simp [push] at h; exact .inl h
  | [_], x, h => by simpa [push] using h
  | c :: b :: r, x, h => by
    unfold push at h
    split at h
    · simpa using h
    · rcases mem_push h with h | h
      · exact .inl h
      · exact .inr (List.mem_cons_of_mem _ h)
theorem mem_chR : ∀ {l : List P} {x : P}, x ∈ chR l → x ∈ l := by
  have key : ∀ (l r : List P) (x : P), x ∈ l.foldl (fun r p => push p r) r → x ∈ r ∨ x ∈ l := by
    intro l
    induction l with
    | nil => intro r x h; exact .inl h
    | cons p l ih =>
      intro r x h
      rcases ih _ _ h with h | h
      · rcases mem_push h with h | h
        · exact .inr (by rw [h]; simp)
        · exact .inl h
      · exact .inr (List.mem_cons_of_mem _ h)
  intro l x h
  simpa using key l [] x h
theorem take_chR {l : List P} {i : Nat} (h : i < l.length) : chR (l.take (i + 1)) = push l[i] (chR (l.take i)) := by
  unfold chR
  rw [List.take_add_one, List.getElem?_eq_getElem h, List.foldl_append]
  rfl
theorem dropLast_rev {α : Type} {c : α} {r : List α} : (c :: r).reverse.dropLast = r.reverse := by simp
theorem sz_0 {n : Nat} : Sz (n + 1) (0 : Rat) := by
  refine ⟨?_, ?_⟩
  · show (0 : Nat) < _
    exact Nat.two_pow_pos _
  · show 1 < _
    rw [Nat.pow_succ]
    have := Nat.two_pow_pos n
    omega
theorem ix_top {c b : P} {r : List P} : gIx (pL (c :: b :: r).reverse) (.int (-1)) = some (pT c) ∧ gIx (pL (c :: b :: r).reverse) (.int (-2)) = some (pT b) := by
  have ln : (c :: b :: r).reverse.length = r.length + 2 := by simp
  constructor
  · rw [ixC (by omega) (by omega), cy_lt (by omega), g_rev (by simp; omega)]
    rw [show (c :: b :: r).length - 1 - ((-1 : Int) + (c :: b :: r).reverse.length).toNat = 0 by rw [ln]; simp; omega]
    rfl
  · rw [ixC (by omega) (by omega), cy_lt (by omega), g_rev (by simp; omega)]
    rw [show (c :: b :: r).length - 1 - ((-2 : Int) + (c :: b :: r).reverse.length).toNat = 1 by rw [ln]; simp; omega]
    rfl
theorem chain_spec {l : List P} {n : Nat} (hl : l.length ≤ 100000) (hz : ∀ p ∈ l, Zp n p) (hn : 8 * n + 10 ≤ 9000) : sem_chain [pL l] = some (pL (chain l), []) := by
  refine wc_eq ?_
  unfold sem_chain F_chain pL
  dsimp?
  refine wf_map (I := fun i γ => γ = [some (pL l), some (pL (chR (l.take i)).reverse), none]) rfl ?_ ?_
  · rintro i γ hi rfl
    have lt1 := chR_len (l.take i)
    have lt2 : (l.take i).length ≤ i := by rw [List.length_take]; omega
    rw [take_chR hi]
    have hz' : ∀ p ∈ chR (l.take i), Zp n p := fun p h => hz p (List.mem_of_mem_take (mem_chR h))
    generalize chR (l.take i) = f at *
    have hpi := hz l[i] (List.getElem_mem hi)
    dsimp?
    refine ww_of (I := fun m γ => ∃ r : List P, γ = [some (pL l), some (pL r.reverse), some (pT l[i])] ∧ m = r.length ∧ r.length ≤ f.length ∧ push l[i] r = push l[i] f ∧ ∀ p ∈ r, Zp n p) ?_ f.length ⟨f, rfl, rfl, Nat.le_refl _, rfl, hz'⟩
    rintro m γ ⟨r, rfl, hm, h1, h2, h3⟩
    have fin : ∀ e : push l[i] r = l[i] :: r, pL (r.reverse ++ [l[i]]) = pL (push l[i] f).reverse := fun e => by
      rw [← h2, e, List.reverse_cons]
    have app := appP (l := r.reverse) (a := l[i]) (by rw [List.length_reverse]; omega)
    match r, h1, h2, h3, fin, hm, app with
    | [], h1, h2, h3, fin, hm, app =>
      dsimp? [isLP, lenP, List.length_reverse, Int.natCast_zero, app]
      rw [fin rfl]
    | [c], h1, h2, h3, fin, hm, app =>
      dsimp? [isLP, lenP, List.length_reverse, Int.natCast_one, app]
      rw [fin rfl]
    | c :: b :: r, h1, h2, h3, fin, hm, app =>
      have zc := h3 c (by simp)
      have zb := h3 b (by simp)
      have zt := turn_spec zb zc hpi (by omega)
      have zl := less_spec (sz_0 (n := 0)) (sz_cr zb zc hpi) (by omega)
      dsimp? [lenP, List.length_reverse, (ix_top (c := c) (b := b) (r := r)).1, (ix_top (c := c) (b := b) (r := r)).2, qT_0, zt, zl]
      refine br_i (fun _ => ?_) (fun z => absurd z (by simp; omega))
      dsimp? [ixP0, ixP1, ixQ0, ixQ1, r_eqP, r_neP, r_eqQ, r_neQ, r_eqL, r_neL, r_inP, r_ninP, lenP, slTo, slFrom, slLast, slLastN, revP, isLP, sAP, sLP, qT_0, (ix_top (c := c) (b := b) (r := r)).1, (ix_top (c := c) (b := b) (r := r)).2, zt, zl]
      refine br_d (fun k => ?_) (fun k => ?_)
      · dsimp? [ixP0, ixP1, ixQ0, ixQ1, r_eqP, r_neP, r_eqQ, r_neQ, r_eqL, r_neL, r_inP, r_ninP, lenP, slTo, slFrom, slLast, slLastN, revP, isLP, sAP, sLP, qT_0, app]
        rw [fin (by unfold push; rw [if_pos k])]
      · dsimp? [ixP0, ixP1, ixQ0, ixQ1, r_eqP, r_neP, r_eqQ, r_neQ, r_eqL, r_neL, r_inP, r_ninP, lenP, slTo, slFrom, slLast, slLastN, revP, isLP, sAP, sLP, qT_0, dropLast_rev]
        refine ⟨_, ?_, b :: r, rfl, rfl, by simp at h1 ⊢; omega, by rw [← h2]; conv => rhs; unfold push
                                                                    rw [if_neg k], fun p hp => h3 p (List.mem_cons_of_mem _ hp)⟩
        rw [hm]
        simp
  · rintro γ rfl
    dsimp?
    rw [List.take_length]
    rfl
end LawS

namespace LawS
open Tw L2 LawP Hl
theorem gAny_bls {bs : List Bool} : gAny [.lst (bs.map T.bl)] = some (.bl (bs.any id)) := by
  show (blsOf (bs.map T.bl)).map _ = _
  rw [blsOf_map]
  rfl
theorem chain_len (l : List P) : (chain l).length ≤ l.length := by
  have := chR_len l
  show (chR l).reverse.length ≤ _
  rw [List.length_reverse]
  exact this
theorem mem_chain {l : List P} {x : P} (h : x ∈ chain l) : x ∈ l := mem_chR (List.mem_reverse.mp h)
section
variable {l : List P} {n : Nat}
theorem hull_spec (hl : l.length ≤ 100000) (hz : ∀ p ∈ l, Zp n p) (hn : 8 * n + 10 ≤ 9000) : sem_hull [pL l] = some (pL (HU l), []) := by
  have l1 := ord_len l
  have z1 : ∀ p ∈ ord l, Zp n p := fun p h => hz p (mem_ord.mp h)
  have c1 := chain_spec (l := ord l) (by omega) z1 hn
  have c2 := chain_spec (l := (ord l).reverse) (by rw [List.length_reverse]; omega) (fun p h => z1 p (List.mem_reverse.mp h)) hn
  refine wc_eq ?_
  unfold sem_hull F_hull HU Hl.hull
  dsimp? [ixP0, ixP1, ixQ0, ixQ1, r_eqP, r_neP, r_eqQ, r_neQ, r_eqL, r_neL, r_inP, r_ninP, lenP, slTo, slFrom, slLast, slLastN, revP, isLP, ↓sAP, ↓sLP, qT_0, in_order_spec hl hz (by omega)]
  refine br_d (fun h => ?_) (fun h => ?_)
  · dsimp? [ixP0, ixP1, ixQ0, ixQ1, r_eqP, r_neP, r_eqQ, r_neQ, r_eqL, r_neL, r_inP, r_ninP, lenP, slTo, slFrom, slLast, slLastN, revP, isLP, ↓sAP, ↓sLP, qT_0]
    rw [if_pos (by omega)]
  · have a1 := addL (l := (chain (ord l)).dropLast) (m := (chain (ord l).reverse).dropLast) (by
      have := chain_len (ord l)
      have := chain_len (ord l).reverse
      rw [List.length_dropLast, List.length_dropLast]
      rw [List.length_reverse] at this
      omega)
    dsimp? [ixP0, ixP1, ixQ0, ixQ1, r_eqP, r_neP, r_eqQ, r_neQ, r_eqL, r_neL, r_inP, r_ninP, lenP, slTo, slFrom, slLast, slLastN, revP, isLP, ↓sAP, ↓sLP, qT_0, c1, c2, a1]
    rw [if_neg (by omega)]
    rfl
def sd (l : List P) : List (P × P) := (List.range l.length).map fun k => (cy l (k + l.length - 1), cy l k)
def eS (e : P × P) : T := .tup [pT e.1, pT e.2]
theorem mem_sd {e : P × P} (h : e ∈ sd l) : e.1 ∈ l ∧ e.2 ∈ l := by
  obtain ⟨k, hk, rfl⟩ := List.mem_map.mp h
  have hk := List.mem_range.mp hk
  have hn : l ≠ [] := fun e => by rw [e] at hk; simp at hk
  exact ⟨cy_mem hn _, cy_mem hn _⟩
theorem sd_len : (sd l).length = l.length := by simp [sd]
theorem sides_spec (hl : l.length ≤ 100000) : sem_sides [pL l] = some (.lst ((sd l).map eS), []) := by
  refine wc_eq ?_
  unfold sem_sides F_sides
  dsimp? [ixP0, ixP1, ixQ0, ixQ1, r_eqP, r_neP, r_eqQ, r_neQ, r_eqL, r_neL, r_inP, r_ninP, lenP, slTo, slFrom, slLast, slLastN, revP, isLP, ↓sAP, ↓sLP, qT_0]
  refine sd_i (by omega) ?_
  dsimp?
  rw [Int.toNat_natCast]
  refine wco_rng (fun k => eS (cy l (k + l.length - 1), cy l k)) (by omega) (fun k hk => ?_) ?_
  · rw [Int.zero_add]
    have i1 := ixC (l := l) (i := (k : Int) - 1) (by omega) (by omega)
    have i2 := ixL (l := l) hk
    rw [show ((k : Int) - 1 + l.length).toNat = k + l.length - 1 by omega] at i1
    dsimp? [ixP0, ixP1, ixQ0, ixQ1, r_eqP, r_neP, r_eqQ, r_neQ, r_eqL, r_neL, r_inP, r_ninP, lenP, slTo, slFrom, slLast, slLastN, revP, isLP, ↓sAP, ↓sLP, qT_0, i1, i2]
    rw [cy_lt hk]
    rfl
  · show T.lst _ = _ ∧ _
    refine ⟨?_, rfl⟩
    unfold sd
    rw [List.map_map]
    rfl
theorem isQ {x : Rat} : isT (qT x) .non = some false := rfl
theorem gany_not {xs : List (P × P)} {f : P × P → Bool} : (!(xs.map f).any id) = true ↔ ∀ e ∈ xs, f e = false := by
  simp
theorem has_spec {q : P} (hn0 : l ≠ []) (hl : l.length ≤ 100000) (hz : ∀ p ∈ l, Zp n p) (hq : Zp n q) (hn : 8 * n + 10 ≤ 9000) : ∃ b, sem_has [pL l, pT q] = some (.bl b, []) ∧ (b = true ↔ Hl.Has l q) := by
  have l0 := List.length_pos_iff.mpr hn0
  suffices h : @WC (sem_has [pL l, pT q]) ⟨fun t us => us = [] ∧ ∃ b, t = .bl b ∧ (b = true ↔ Hl.Has l q)⟩ by
    obtain ⟨t, us, e, rfl, b, rfl, k⟩ := h
    exact ⟨b, e, k⟩
  unfold sem_has F_has
  dsimp? [ixP0, ixP1, ixQ0, ixQ1, r_eqP, r_neP, r_eqQ, r_neQ, r_eqL, r_neL, r_inP, r_ninP, lenP, slTo, slFrom, slLast, slLastN, revP, isLP, ↓sAP, ↓sLP, qT_0]
  refine br_d (fun h => ?_) (fun h => ?_)
  · have i0 : gIx (pL l) (.int 0) = some (pT (g l 0)) := ixL (k := 0) l0
    dsimp? [ixP0, ixP1, ixQ0, ixQ1, r_eqP, r_neP, r_eqQ, r_neQ, r_eqL, r_neL, r_inP, r_ninP, lenP, slTo, slFrom, slLast, slLastN, revP, isLP, ↓sAP, ↓sLP, qT_0, i0]
    refine ⟨_, rfl, ?_⟩
    unfold Hl.Has
    rw [if_pos (by omega)]
    exact decide_eq_true_iff
  · dsimp? [ixP0, ixP1, ixQ0, ixQ1, r_eqP, r_neP, r_eqQ, r_neQ, r_eqL, r_neL, r_inP, r_ninP, lenP, slTo, slFrom, slLast, slLastN, revP, isLP, ↓sAP, ↓sLP, qT_0]
    refine br_d (fun h2 => ?_) (fun h2 => ?_)
    · match l, h2, h, hz with
      | [a, b], _, h, hz =>
        have za := hz a (by simp)
        have zb := hz b (by simp)
        have e : pL [a, b] = .lst [pT a, pT b] := rfl
        rw [e]
        dsimp? [ixP0, ixP1, ixQ0, ixQ1, r_eqP, r_neP, r_eqQ, r_neQ, r_eqL, r_neL, r_inP, r_ninP, lenP, slTo, slFrom, slLast, slLastN, revP, isLP, ↓sAP, ↓sLP, qT_0, turn_spec za zb hq (by omega)]
        have e2 : Hl.Has [a, b] q ↔ cr a b q = 0 ∧ ¬ lt q a ∧ ¬ lt b q := by
          unfold Hl.Has
          rw [if_neg (by simp), if_pos (by simp)]
          rfl
        rw [e2]
        refine br_d (fun c => ?_) (fun c => ?_)
        · dsimp? [ixP0, ixP1, ixQ0, ixQ1, r_eqP, r_neP, r_eqQ, r_neQ, r_eqL, r_neL, r_inP, r_ninP, lenP, slTo, slFrom, slLast, slLastN, revP, isLP, ↓sAP, ↓sLP, qT_0, sooner_spec hq za (by omega)]
          refine br_d (fun c2 => ?_) (fun c2 => ?_)
          · dsimp? [ixP0, ixP1, ixQ0, ixQ1, r_eqP, r_neP, r_eqQ, r_neQ, r_eqL, r_neL, r_inP, r_ninP, lenP, slTo, slFrom, slLast, slLastN, revP, isLP, ↓sAP, ↓sLP, qT_0]
            exact ⟨_, rfl, by simp [c2]⟩
          · dsimp? [ixP0, ixP1, ixQ0, ixQ1, r_eqP, r_neP, r_eqQ, r_neQ, r_eqL, r_neL, r_inP, r_ninP, lenP, slTo, slFrom, slLast, slLastN, revP, isLP, ↓sAP, ↓sLP, qT_0, sooner_spec zb hq (by omega)]
            exact ⟨_, rfl, by simp [c, c2]⟩
        · dsimp? [ixP0, ixP1, ixQ0, ixQ1, r_eqP, r_neP, r_eqQ, r_neQ, r_eqL, r_neL, r_inP, r_ninP, lenP, slTo, slFrom, slLast, slLastN, revP, isLP, ↓sAP, ↓sLP, qT_0]
          exact ⟨_, rfl, by simp [c]⟩
    · dsimp? [ixP0, ixP1, ixQ0, ixQ1, r_eqP, r_neP, r_eqQ, r_neQ, r_eqL, r_neL, r_inP, r_ninP, lenP, slTo, slFrom, slLast, slLastN, revP, isLP, ↓sAP, ↓sLP, qT_0, sides_spec hl]
      refine wco_mapx (fun e => T.bl (decide (cr e.1 e.2 q < 0))) (by rw [sd_len]; omega) (fun e he => ?_) ?_
      · have m := mem_sd he
        unfold eS
        dsimp? [ixP0, ixP1, ixQ0, ixQ1, r_eqP, r_neP, r_eqQ, r_neQ, r_eqL, r_neL, r_inP, r_ninP, lenP, slTo, slFrom, slLast, slLastN, revP, isLP, ↓sAP, ↓sLP, qT_0, turn_spec (hz _ m.1) (hz _ m.2) hq (by omega), less_spec (sz_cr (hz _ m.1) (hz _ m.2) hq) (sz_0 (n := 0)) (by omega)]
      · have e : (sd l).map (fun e => T.bl (decide (cr e.1 e.2 q < 0))) = ((sd l).map fun e => decide (cr e.1 e.2 q < 0)).map T.bl := by rw [List.map_map]; rfl
        rw [e]
        dsimp? [ixP0, ixP1, ixQ0, ixQ1, r_eqP, r_neP, r_eqQ, r_neQ, r_eqL, r_neL, r_inP, r_ninP, lenP, slTo, slFrom, slLast, slLastN, revP, isLP, ↓sAP, ↓sLP, qT_0, gAny_bls]
        refine ⟨_, rfl, ?_⟩
        rw [gany_not]
        unfold Hl.Has
        rw [if_neg (by omega), if_neg (by omega)]
        constructor
        · intro k i hi
          have key : ∀ j, j < l.length → 0 ≤ cr (cy l (j + l.length - 1)) (cy l j) q := fun j hj => by
            have := k (cy l (j + l.length - 1), cy l j) (List.mem_map.mpr ⟨j, List.mem_range.mpr hj, rfl⟩)
            have := of_decide_eq_false this
            grind
          by_cases c : i + 1 < l.length
          · have := key (i + 1) c
            rwa [show i + 1 + l.length - 1 = i + l.length by omega, cy_per] at this
          · have := key 0 l0
            rw [show 0 + l.length - 1 = i by omega] at this
            rwa [show i + 1 = 0 + l.length by omega, cy_per]
        · intro k e he
          obtain ⟨j, hj, rfl⟩ := List.mem_map.mp he
          have hj := List.mem_range.mp hj
          refine decide_eq_false ?_
          by_cases c : j = 0
          · have := k (l.length - 1) (by omega)
            rw [show l.length - 1 + 1 = 0 + l.length by omega, cy_per] at this
            rw [c, show 0 + l.length - 1 = l.length - 1 by omega]
            grind
          · have := k (j - 1) (by omega)
            rw [show j - 1 + 1 = j by omega] at this
            rw [show j + l.length - 1 = j - 1 + l.length by omega, cy_per]
            grind
/-! areas -/
def ar (e : P × P) : Rat := e.1.1 * e.2.2 - e.2.1 * e.1.2
def A2 (xs : List (P × P)) : Rat := xs.foldl (fun s e => s + ar e) 0
theorem A2_take {xs : List (P × P)} {i : Nat} (h : i < xs.length) : A2 (xs.take (i + 1)) = A2 (xs.take i) + ar xs[i] := by
  unfold A2
  rw [List.take_add_one, List.getElem?_eq_getElem h, List.foldl_append]
  rfl
theorem sz_A2 {xs : List (P × P)} (hz : ∀ e ∈ xs, Zp n e.1 ∧ Zp n e.2) : Sz (1 + xs.length * (4 * n + 2)) (A2 xs) := by
  have key : ∀ (xs : List (P × P)) (s : Rat) (m : Nat), Sz m s → (∀ e ∈ xs, Zp n e.1 ∧ Zp n e.2) → Sz (m + xs.length * (4 * n + 2)) (xs.foldl (fun s e => s + ar e) s) := by
    intro xs
    induction xs with
    | nil => intro s m h _; simpa using h
    | cons e xs ih =>
      intro s m h hz
      have he := hz e (by simp)
      have s1 : Sz (m + (4 * n + 2)) (s + ar e) := (sz_add h (sz_sub (sz_mul he.1.1 he.2.2) (sz_mul he.2.1 he.1.2))).mono (by omega)
      have := ih _ _ s1 (fun e h => hz e (List.mem_cons_of_mem _ h))
      rw [List.foldl_cons, List.length_cons]
      refine this.mono ?_
      rw [Nat.add_mul xs.length 1, Nat.one_mul]
      omega
  exact key xs 0 1 (sz_0 (n := 0)) hz
theorem qT_2 : T.tup [.int 2, .int 1] = qT 2 := (qT_int 2).symm
theorem sz_2 {n : Nat} : Sz (n + 2) (2 : Rat) := by
  refine ⟨?_, ?_⟩
  · show 2 < _
    rw [Nat.pow_succ, Nat.pow_succ]
    have := Nat.two_pow_pos n
    omega
  · show 1 < _
    rw [Nat.pow_succ, Nat.pow_succ]
    have := Nat.two_pow_pos n
    omega
theorem area_spec (hl : l.length ≤ 1000) (hz : ∀ p ∈ l, Zp n p) (hn : 1 + (l.length + 1) * (4 * n + 2) + 10 ≤ 9000) : sem_area [pL l] = some (qT (A2 (sd l) / 2), []) := by
  refine wc_eq ?_
  unfold sem_area F_area
  dsimp? [ixP0, ixP1, ixQ0, ixQ1, r_eqP, r_neP, r_eqQ, r_neQ, r_eqL, r_neL, r_inP, r_ninP, lenP, slTo, slFrom, slLast, slLastN, revP, isLP, ↓sAP, ↓sLP, qT_0, sides_spec (l := l) (by omega)]
  have zs : ∀ e ∈ sd l, Zp n e.1 ∧ Zp n e.2 := fun e he => ⟨hz _ (mem_sd he).1, hz _ (mem_sd he).2⟩
  refine wf_map (I := fun i γ => γ = [some (pL l), some (qT (A2 ((sd l).take i))), none, none]) rfl ?_ ?_
  · rintro i γ hi rfl
    have ze := zs _ (List.getElem_mem hi)
    have hi' : i < l.length := by rw [sd_len] at hi; exact hi
    have st := sz_A2 (xs := (sd l).take i) (fun e h => zs e (List.mem_of_mem_take h))
    rw [List.length_take, sd_len, Nat.min_eq_left (by omega)] at st
    have hb : (i + 1) * (4 * n + 2) ≤ l.length * (4 * n + 2) := Nat.mul_le_mul_right _ (by omega)
    have hb2 : (l.length + 1) * (4 * n + 2) = l.length * (4 * n + 2) + (4 * n + 2) := by rw [Nat.add_mul _ 1, Nat.one_mul]
    have hb3 : (i + 1) * (4 * n + 2) = i * (4 * n + 2) + (4 * n + 2) := by rw [Nat.add_mul _ 1, Nat.one_mul]
    have m1 := sz_mul ze.1.1 ze.2.2
    have m2 := sz_mul ze.2.1 ze.1.2
    unfold eS
    dsimp? [ixP0, ixP1, ixQ0, ixQ1, r_eqP, r_neP, r_eqQ, r_neQ, r_eqL, r_neL, r_inP, r_ninP, lenP, slTo, slFrom, slLast, slLastN, revP, isLP, ↓sAP, ↓sLP, qT_0, times_spec ze.1.1 ze.2.2 (by omega), times_spec ze.2.1 ze.1.2 (by omega), minus_spec m1 m2 (by omega), plus_spec st (sz_sub m1 m2) (by omega)]
    rw [A2_take hi]
    rfl
  · rintro γ rfl
    have st := sz_A2 zs
    rw [sd_len] at st
    have hb2 : (l.length + 1) * (4 * n + 2) = l.length * (4 * n + 2) + (4 * n + 2) := by rw [Nat.add_mul _ 1, Nat.one_mul]
    rw [List.take_length]
    dsimp? [ixP0, ixP1, ixQ0, ixQ1, r_eqP, r_neP, r_eqQ, r_neQ, r_eqL, r_neL, r_inP, r_ninP, lenP, slTo, slFrom, slLast, slLastN, revP, isLP, ↓sAP, ↓sLP, qT_0, qT_2, over_spec st (sz_2 (n := 0)) (by decide) (by omega)]
/-! how far -/
def Mx (l : List P) (d : P) (m : Rat) : Prop := (∀ x ∈ l, al x d ≤ m) ∧ ∃ x ∈ l, m = al x d
theorem Mx.uniq {l' : List P} {d : P} {m m' : Rat} (h : Mx l d m) (h' : Mx l' d m') (k : ∀ x ∈ l, al x d ≤ m') (k' : ∀ x ∈ l', al x d ≤ m) : m = m' := by
  obtain ⟨x, hx, e⟩ := h.2
  obtain ⟨y, hy, e'⟩ := h'.2
  have a := k x hx
  have b := k' y hy
  exact Rat.le_antisymm (by grind) (by grind)
theorem Mx.step {i : Nat} {d : P} {m : Rat} (hi : i < l.length) (h : Mx (l.take i) d m) : Mx (l.take (i + 1)) d (if m < al l[i] d then al l[i] d else m) := by
  have e : l.take (i + 1) = l.take i ++ [l[i]] := by rw [List.take_add_one, List.getElem?_eq_getElem hi]; rfl
  rw [e]
  split
  · rename_i c
    refine ⟨fun x hx => ?_, l[i], by rw [List.mem_append]; simp, rfl⟩
    rcases List.mem_append.mp hx with hx | hx
    · have := h.1 x hx; grind
    · rw [List.mem_singleton.mp hx]; exact Rat.le_refl
  · rename_i c
    refine ⟨fun x hx => ?_, ?_⟩
    · rcases List.mem_append.mp hx with hx | hx
      · exact h.1 x hx
      · rw [List.mem_singleton.mp hx]; grind
    · obtain ⟨x, hx, e⟩ := h.2
      exact ⟨x, List.mem_append_left _ hx, e⟩
theorem reach_spec {d : P} (hn0 : l ≠ []) (hl : l.length ≤ 100000) (hz : ∀ p ∈ l, Zp n p) (hd : Zp n d) (hn : 8 * n + 10 ≤ 9000) : ∃ m, sem_reach [pL l, pT d] = some (qT m, []) ∧ Mx l d m := by
  suffices h : @WC (sem_reach [pL l, pT d]) ⟨fun t us => us = [] ∧ ∃ m, t = qT m ∧ Mx l d m⟩ by
    obtain ⟨t, us, e, rfl, b, rfl, k⟩ := h
    exact ⟨b, e, k⟩
  unfold sem_reach F_reach
  dsimp? [ixP0, ixP1, ixQ0, ixQ1, r_eqP, r_neP, r_eqQ, r_neQ, r_eqL, r_neL, r_inP, r_ninP, lenP, slTo, slFrom, slLast, slLastN, revP, isLP, ↓sAP, ↓sLP, qT_0]
  refine wf_map (I := fun i γ => (i = 0 ∧ γ = [some (pL l), some (pT d), some .non, none, none]) ∨ ∃ m, Sz (4 * n + 1) m ∧ Mx (l.take i) d m ∧ γ = [some (pL l), some (pT d), some (qT m), none, none]) (.inl ⟨rfl, rfl⟩) ?_ ?_
  · intro i γ hi hI
    have zi := hz _ (List.getElem_mem hi)
    have sa := sz_al zi hd
    rcases hI with ⟨rfl, rfl⟩ | ⟨m, hs, hm, rfl⟩
    · dsimp? [ixP0, ixP1, ixQ0, ixQ1, r_eqP, r_neP, r_eqQ, r_neQ, r_eqL, r_neL, r_inP, r_ninP, lenP, slTo, slFrom, slLast, slLastN, revP, isLP, ↓sAP, ↓sLP, qT_0, along_spec zi hd (by omega)]
      refine .inr ⟨_, sa, ?_, rfl⟩
      cases l with
      | nil => exact absurd rfl hn0
      | cons x l => exact ⟨fun y hy => by rw [show y = x by simpa using hy]; exact Rat.le_refl, x, by simp, rfl⟩
    · have := hm.step hi
      dsimp? [ixP0, ixP1, ixQ0, ixQ1, r_eqP, r_neP, r_eqQ, r_neQ, r_eqL, r_neL, r_inP, r_ninP, lenP, slTo, slFrom, slLast, slLastN, revP, isLP, ↓sAP, ↓sLP, qT_0, along_spec zi hd (by omega), isQ, less_spec hs sa (by omega)]
      refine br_d (fun c => ?_) (fun c => ?_)
      · dsimp? [ixP0, ixP1, ixQ0, ixQ1, r_eqP, r_neP, r_eqQ, r_neQ, r_eqL, r_neL, r_inP, r_ninP, lenP, slTo, slFrom, slLast, slLastN, revP, isLP, ↓sAP, ↓sLP, qT_0]
        rw [if_pos c] at this
        exact .inr ⟨_, sa, this, rfl⟩
      · dsimp? [ixP0, ixP1, ixQ0, ixQ1, r_eqP, r_neP, r_eqQ, r_neQ, r_eqL, r_neL, r_inP, r_ninP, lenP, slTo, slFrom, slLast, slLastN, revP, isLP, ↓sAP, ↓sLP, qT_0]
        rw [if_neg c] at this
        exact .inr ⟨_, hs, this, rfl⟩
  · rintro γ (⟨h, _⟩ | ⟨m, hs, hm, rfl⟩)
    · exact absurd (List.length_eq_zero_iff.mp h) hn0
    · rw [List.take_length] at hm
      dsimp? [ixP0, ixP1, ixQ0, ixQ1, r_eqP, r_neP, r_eqQ, r_neQ, r_eqL, r_neL, r_inP, r_ninP, lenP, slTo, slFrom, slLast, slLastN, revP, isLP, ↓sAP, ↓sLP, qT_0]
      exact ⟨m, rfl, hm⟩
end
end LawS

namespace LawS
open Tw L2 LawP Hl
/-! the law's own fractions -/
theorem lgcd_spec (p q : Int) {n : Nat} (hb : q.natAbs < 2 ^ n) (hn : n ≤ 199) : sem__law_gcd [.int p, .int q] = some (.int (Int.gcd q p : Nat), []) := by
  have h := gcd_loop n (rngT 0 400) p.natAbs q.natAbs none hb (by simp; omega)
  have a1 : ∀ i : Int, (if i < 0 then -i else i) = (i.natAbs : Int) := fun i => by split <;> omega
  refine wc_eq ?_
  unfold sem__law_gcd F__law_gcd
  dsimp? [a1]
  refine ⟨_, h, ?_⟩
  dsimp?
  show T.int _ = _
  rw [Nat.gcd_comm]
  rfl
theorem lfrac_spec (p q : Int) (hq : q ≠ 0) {n : Nat} (hb : q.natAbs < 2 ^ n) (hn : n ≤ 199) : sem__law_frac [.int p, .int q] = some (qT ((p : Rat) / q), []) := by
  have g0 : 0 < Int.gcd q p := Int.gcd_pos_of_ne_zero_left _ hq
  have hgl : Int.gcd q p ≤ q.natAbs := Nat.gcd_le_left _ (by omega)
  have hd : okDiv (Int.gcd q p : Int) = true := okDiv_of (m := n) (by omega) (by omega) (by omega)
  have hd2 : okDiv (-(Int.gcd q p : Int)) = true := okDiv_of (m := n) (by omega) (by omega) (by omega)
  refine wc_eq ?_
  unfold sem__law_frac F__law_frac
  dsimp? [lgcd_spec p q hb hn]
  refine br_d (fun c => ?_) (fun c => ?_)
  · dsimp? [hd2]
    have e : (((-p : Int) : Rat) / ((-q : Int) : Rat)) = (p : Rat) / q := by
      rw [Rat.intCast_neg, Rat.intCast_neg]
      grind
    obtain ⟨h1, h2⟩ := rat_parts (-p) (-q) (by omega)
    rw [e] at h1 h2
    have e2 : Int.gcd (-q) (-p) = Int.gcd q p := by rw [Int.gcd_neg, Int.neg_gcd]
    rw [e2] at h1 h2
    have d1 : (Int.gcd q p : Int) ∣ p := Int.gcd_dvd_right ..
    have d2 : (Int.gcd q p : Int) ∣ q := Int.gcd_dvd_left ..
    unfold qT
    rw [fdiv_neg_exact (by omega) d1, fdiv_neg_exact (by omega) d2, h1, h2, Int.neg_ediv_of_dvd d1, Int.neg_ediv_of_dvd d2]
  · dsimp? [hd]
    obtain ⟨h1, h2⟩ := rat_parts p q (by omega)
    unfold qT
    rw [h1, h2, Int.fdiv_eq_ediv_of_nonneg _ (by omega), Int.fdiv_eq_ediv_of_nonneg _ (by omega)]
section
variable {a b : Rat} {n m : Nat}
theorem lplus_spec (ha : Sz n a) (hb : Sz m b) (h : n + m + 1 ≤ 199) : sem__law_plus [qT a, qT b] = some (qT (a + b), []) := by
  refine wc_eq ?_
  unfold sem__law_plus F__law_plus
  dsimp? [ixQ0, ixQ1, ok_nd ha hb (by omega), ok_nd hb ha (by omega), ok_dd ha hb (by omega), lfrac_spec _ _ (dd_ne (a := a) (b := b)) (bd_dd ha hb) (by omega)]
  rw [add_parts]
theorem ltimes_spec (ha : Sz n a) (hb : Sz m b) (h : n + m + 1 ≤ 199) : sem__law_times [qT a, qT b] = some (qT (a * b), []) := by
  refine wc_eq ?_
  unfold sem__law_times F__law_times
  dsimp? [ixQ0, ixQ1, ok_nn ha hb (by omega), ok_dd ha hb (by omega), lfrac_spec _ _ (dd_ne (a := a) (b := b)) (bd_dd ha hb) (by omega)]
  rw [mul_parts]
theorem lunder_spec (ha : Sz n a) (hb : Sz m b) (h : n + m + 1 ≤ 9000) : sem__law_under [qT a, qT b] = some (.bl (decide (a < b)), []) := by
  refine wc_eq ?_
  unfold sem__law_under F__law_under
  dsimp? [ixQ0, ixQ1, ok_nd ha hb h, ok_nd hb ha (by omega)]
  congr 1
  exact decide_eq_decide.mpr (Rat.lt_iff a b).symm
theorem qT_neg : T.tup [.int (-b.num), .int b.den] = qT (-b) := by unfold qT; rw [Rat.neg_num, Rat.neg_den]
theorem lminus_spec (ha : Sz n a) (hb : Sz m b) (h : n + m + 1 ≤ 199) : sem__law_minus [qT a, qT b] = some (qT (a - b), []) := by
  refine wc_eq ?_
  unfold sem__law_minus F__law_minus
  dsimp? [ixQ0, ixQ1]
  dsimp? [qT_neg, lplus_spec ha (sz_neg hb) h]
  rw [Rat.sub_eq_add_neg]
theorem lover_spec (ha : Sz n a) (hb : Sz m b) (h0 : b ≠ 0) (h : n + m + 1 ≤ 199) : sem__law_over [qT a, qT b] = some (qT (a / b), []) := by
  have hnz : (a.den : Int) * b.num ≠ 0 := by
    have h1 : (a.den : Int) ≠ 0 := by have := a.den_nz; omega
    have h2 : b.num ≠ 0 := by rw [Ne, Rat.num_eq_zero]; exact h0
    exact Int.mul_ne_zero h1 h2
  have hbd : ((a.den : Int) * b.num).natAbs < 2 ^ (n + m) := by
    rw [Int.natAbs_mul, Int.natAbs_natCast]
    exact mul_pow ha.2 hb.1
  refine wc_eq ?_
  unfold sem__law_over F__law_over
  dsimp? [ixQ0, ixQ1, ok_nd ha hb (by omega), ok_dn ha hb (by omega), lfrac_spec _ _ hnz hbd (by omega)]
  rw [div_parts h0]
end
/-! drawn points -/
theorem sz_num {i : Int} {q : Int} (hq : 1 ≤ q ∧ q ≤ 3) (hi : -27 ≤ i ∧ i ≤ 27) : Sz 5 ((i : Rat) / (q : Int)) := Sz.div (by omega) (by omega) (by omega)
theorem number_w {ns : List Int} {p : T} {K : KC} {top : Int} (hp : Pool ns p) (ht : 1 ≤ top ∧ top ≤ 9) (k : ∀ x p', Pool ns p' → Sz 5 x → K.ap (qT x) [p']) : @WC (sem__law_number [p, .int top]) K := by
  have o1 : okMul 2 top = true := okMul_r (by omega)
  unfold sem__law_number F__law_number
  dsimp?
  refine pick_w hp (by simp) (by decide) fun v p1 h1 hv => ?_
  obtain ⟨q, rfl, hq⟩ : ∃ q : Int, v = .int q ∧ 1 ≤ q ∧ q ≤ 3 := by
    simp at hv
    rcases hv with rfl | rfl | rfl <;> exact ⟨_, rfl, by omega⟩
  have o2 : okMul (2 * top) q = true := okMul_r (by omega)
  have o3 : okMul top q = true := okMul_r (by omega)
  have b1 : 1 ≤ top * q := by
    have := Int.mul_le_mul ht.1 hq.1 (by omega) (by omega)
    simpa using this
  have b2 : top * q ≤ 27 := by
    have := Int.mul_le_mul ht.2 hq.2 (by omega) (by omega)
    simpa using this
  have e2 : 2 * top * q = 2 * (top * q) := by rw [Int.mul_assoc]
  dsimp? [o1, o2, o3]
  refine draw_w h1 (by omega) (by omega) fun w p2 h2 hw => ?_
  dsimp? [o3]
  have hf := lfrac_spec ((w : Int) - top * q) q (by omega) (n := 2) (by omega) (by omega)
  dsimp? [hf]
  exact k _ _ h2 (sz_num hq (by omega))
theorem point_w {ns : List Int} {p : T} {K : KC} {top : Int} (hp : Pool ns p) (ht : 1 ≤ top ∧ top ≤ 9) (k : ∀ x p', Pool ns p' → Zp 5 x → K.ap (pT x) [p']) : @WC (sem__law_point [p, .int top]) K := by
  unfold sem__law_point F__law_point
  dsimp?
  refine number_w hp ht fun x p1 h1 hx => ?_
  dsimp?
  refine number_w h1 ht fun y p2 h2 hy => ?_
  dsimp?
  exact k (x, y) p2 h2 ⟨hx, hy⟩
theorem points_w {ns : List Int} {p : T} {K : KC} {top most : Int} (hp : Pool ns p) (ht : 1 ≤ top ∧ top ≤ 9) (hm : 1 ≤ most ∧ most ≤ 1000) (k : ∀ l p', Pool ns p' → l ≠ [] → (l.length : Int) ≤ most → (∀ x ∈ l, Zp 5 x) → K.ap (pL l) [p']) : @WC (sem__law_points [p, .int most, .int top]) K := by
  unfold sem__law_points F__law_points
  dsimp?
  refine draw_w hp (by omega) (by omega) fun v p1 h1 hv => ?_
  dsimp?
  refine sd_i (by omega) ?_
  dsimp?
  refine wf_rng (I := fun i γ => ∃ p l, Pool ns p ∧ l.length = i ∧ (∀ x ∈ l, Zp 5 x) ∧ γ = [some p, some (.int most), some (.int top), some (pL l), none, none]) ⟨p1, [], h1, rfl, by simp, rfl⟩ ?_ ?_
  · rintro i γ hi ⟨p2, l, h2, hl, hz, rfl⟩
    dsimp?
    refine next_w h2 fun p3 h3 => ?_
    dsimp? [ixP0, ixP1, ixQ0, ixQ1, r_eqP, r_neP, r_eqQ, r_neQ, r_eqL, r_neL, r_inP, r_ninP, lenP, slTo, slFrom, slLast, slLastN, revP, isLP, ↓sAP, ↓sLP, qT_0]
    refine point_w h3 ht fun x p4 h4 hx => ?_
    dsimp? [ixP0, ixP1, ixQ0, ixQ1, r_eqP, r_neP, r_eqQ, r_neQ, r_eqL, r_neL, r_inP, r_ninP, lenP, slTo, slFrom, slLast, slLastN, revP, isLP, ↓sAP, ↓sLP, qT_0, appP (l := l) (a := x) (by omega)]
    exact ⟨p4, l ++ [x], h4, by simp; omega, fun y hy => by
      rcases List.mem_append.mp hy with hy | hy
      · exact hz y hy
      · rw [List.mem_singleton.mp hy]; exact hx, rfl⟩
  · rintro γ ⟨p2, l, h2, hl, hz, rfl⟩
    have hne : l ≠ [] := fun e => by rw [e] at hl; simp at hl; omega
    have ok := fun p' hp' => k l p' hp' hne (by omega) hz
    dsimp? [ixP0, ixP1, ixQ0, ixQ1, r_eqP, r_neP, r_eqQ, r_neQ, r_eqL, r_neL, r_inP, r_ninP, lenP, slTo, slFrom, slLast, slLastN, revP, isLP, ↓sAP, ↓sLP, qT_0]
    refine br_d (fun c => ?_) (fun c => ?_)
    · dsimp? [ixP0, ixP1, ixQ0, ixQ1, r_eqP, r_neP, r_eqQ, r_neQ, r_eqL, r_neL, r_inP, r_ninP, lenP, slTo, slFrom, slLast, slLastN, revP, isLP, ↓sAP, ↓sLP, qT_0]
      refine draw_w h2 (by decide) (by decide) fun w p3 h3 hw => ?_
      dsimp? [ixP0, ixP1, ixQ0, ixQ1, r_eqP, r_neP, r_eqQ, r_neQ, r_eqL, r_neL, r_inP, r_ninP, lenP, slTo, slFrom, slLast, slLastN, revP, isLP, ↓sAP, ↓sLP, qT_0]
      refine br_d (fun c2 => ?_) (fun c2 => ?_)
      · unfold pL
        dsimp? [ixP0, ixP1, ixQ0, ixQ1, r_eqP, r_neP, r_eqQ, r_neQ, r_eqL, r_neL, r_inP, r_ninP, lenP, slTo, slFrom, slLast, slLastN, revP, isLP, ↓sAP, ↓sLP, qT_0]
        refine wco_mapx (fun x => pT (x.1, x.1)) (by omega) (fun x hx => ?_) ?_
        · dsimp? [ixP0, ixP1, ixQ0, ixQ1, r_eqP, r_neP, r_eqQ, r_neQ, r_eqL, r_neL, r_inP, r_ninP, lenP, slTo, slFrom, slLast, slLastN, revP, isLP, ↓sAP, ↓sLP, qT_0]
          rfl
        · have e : T.lst (l.map fun x => pT (x.1, x.1)) = pL (l.map fun x => (x.1, x.1)) := by
            unfold pL
            rw [List.map_map]
            rfl
          dsimp? [ixP0, ixP1, ixQ0, ixQ1, r_eqP, r_neP, r_eqQ, r_neQ, r_eqL, r_neL, r_inP, r_ninP, lenP, slTo, slFrom, slLast, slLastN, revP, isLP, ↓sAP, ↓sLP, qT_0, e]
          refine k _ _ h3 (by simpa using hne) (by rw [List.length_map]; omega) fun x hx => ?_
          obtain ⟨y, hy, rfl⟩ := List.mem_map.mp hx
          exact ⟨(hz y hy).1, (hz y hy).1⟩
      · dsimp? [ixP0, ixP1, ixQ0, ixQ1, r_eqP, r_neP, r_eqQ, r_neQ, r_eqL, r_neL, r_inP, r_ninP, lenP, slTo, slFrom, slLast, slLastN, revP, isLP, ↓sAP, ↓sLP, qT_0]
        exact ok _ h3
    · dsimp? [ixP0, ixP1, ixQ0, ixQ1, r_eqP, r_neP, r_eqQ, r_neQ, r_eqL, r_neL, r_inP, r_ninP, lenP, slTo, slFrom, slLast, slLastN, revP, isLP, ↓sAP, ↓sLP, qT_0]
      exact ok _ h2
end LawS

namespace LawS
open Tw L2 LawP Hl
theorem num0 {x : Rat} : x.num = 0 ↔ x = 0 := Rat.num_eq_zero
theorem numnn {x : Rat} : 0 ≤ x.num ↔ 0 ≤ x := Rat.num_nonneg
theorem numnp {x : Rat} : x.num ≤ 0 ↔ x ≤ 0 := by
  have := numnn (x := -x)
  rw [Rat.neg_num] at this
  constructor
  · intro h; have := this.mp (by omega); grind
  · intro h; have := this.mpr (by grind); omega
section
variable {a b c q : P} {l : List P} {n m : Nat}
theorem lturn_spec (ha : Zp n a) (hb : Zp n b) (hc : Zp n c) (h : n ≤ 24) : sem__law_turn [pT a, pT b, pT c] = some (.int (cr a b c).num, []) := by
  refine wc_eq ?_
  unfold sem__law_turn F__law_turn
  have s1 := sz_sub hb.1 ha.1
  have s2 := sz_sub hc.2 ha.2
  have s3 := sz_sub hb.2 ha.2
  have s4 := sz_sub hc.1 ha.1
  dsimp? [ixP0, ixP1, ixQ0, ixQ1, r_eqP, r_neP, r_eqQ, r_neQ, r_eqL, r_neL, r_inP, r_ninP, lenP, slTo, slFrom, slLast, slLastN, revP, isLP, ↓sAP, ↓sLP, qT_0, lminus_spec hb.1 ha.1 (by omega), lminus_spec hc.2 ha.2 (by omega), lminus_spec hb.2 ha.2 (by omega), lminus_spec hc.1 ha.1 (by omega), ltimes_spec s1 s2 (by omega), ltimes_spec s3 s4 (by omega), lminus_spec (sz_mul s1 s2) (sz_mul s3 s4) (by omega)]
  rfl
theorem lsooner_spec (ha : Zp n a) (hb : Zp n b) (h : 2 * n + 1 ≤ 9000) : sem__law_sooner [pT a, pT b] = some (.bl (decide (lt a b)), []) := by
  refine wc_eq ?_
  unfold sem__law_sooner F__law_sooner
  dsimp? [ixP0, ixP1, ixQ0, ixQ1, r_eqP, r_neP, r_eqQ, r_neQ, r_eqL, r_neL, r_inP, r_ninP, lenP, slTo, slFrom, slLast, slLastN, revP, isLP, ↓sAP, ↓sLP, qT_0, lunder_spec ha.1 hb.1 (by omega)]
  refine br_d (fun h => ?_) (fun h => ?_)
  · dsimp?
    congr 1
    exact (decide_eq_true (.inl h)).symm
  · dsimp? [ixP0, ixP1, ixQ0, ixQ1, r_eqP, r_neP, r_eqQ, r_neQ, r_eqL, r_neL, r_inP, r_ninP, lenP, slTo, slFrom, slLast, slLastN, revP, isLP, ↓sAP, ↓sLP, qT_0]
    refine br_d (fun h2 => ?_) (fun h2 => ?_)
    · dsimp? [ixP0, ixP1, ixQ0, ixQ1, r_eqP, r_neP, r_eqQ, r_neQ, r_eqL, r_neL, r_inP, r_ninP, lenP, slTo, slFrom, slLast, slLastN, revP, isLP, ↓sAP, ↓sLP, qT_0, lunder_spec ha.2 hb.2 (by omega)]
      congr 1
      exact decide_eq_decide.mpr ⟨fun k => .inr ⟨h2, k⟩, fun k => k.elim (fun k => absurd k h) (·.2)⟩
    · dsimp? [ixP0, ixP1, ixQ0, ixQ1, r_eqP, r_neP, r_eqQ, r_neQ, r_eqL, r_neL, r_inP, r_ninP, lenP, slTo, slFrom, slLast, slLastN, revP, isLP, ↓sAP, ↓sLP, qT_0]
      congr 1
      exact (decide_eq_false (p := lt a b) fun k => k.elim h fun k => h2 k.1).symm
theorem lalong_spec (ha : Zp n a) (hb : Zp n b) (h : 4 * n + 1 ≤ 199) : sem__law_along [pT a, pT b] = some (qT (al a b), []) := by
  refine wc_eq ?_
  unfold sem__law_along F__law_along
  dsimp? [ixP0, ixP1, ixQ0, ixQ1, r_eqP, r_neP, r_eqQ, r_neQ, r_eqL, r_neL, r_inP, r_ninP, lenP, slTo, slFrom, slLast, slLastN, revP, isLP, ↓sAP, ↓sLP, qT_0, ltimes_spec ha.1 hb.1 (by omega), ltimes_spec ha.2 hb.2 (by omega), lplus_spec (sz_mul ha.1 hb.1) (sz_mul ha.2 hb.2) (by omega)]
  rw [← al_lin]
  rfl
theorem lreach_spec {d : P} (hn0 : l ≠ []) (hl : l.length ≤ 100000) (hz : ∀ p ∈ l, Zp n p) (hd : Zp n d) (hn : n ≤ 24) : ∃ m, sem__law_reach [pL l, pT d] = some (qT m, []) ∧ Mx l d m := by
  suffices h : @WC (sem__law_reach [pL l, pT d]) ⟨fun t us => us = [] ∧ ∃ m, t = qT m ∧ Mx l d m⟩ by
    obtain ⟨t, us, e, rfl, b, rfl, k⟩ := h
    exact ⟨b, e, k⟩
  unfold sem__law_reach F__law_reach
  dsimp? [ixP0, ixP1, ixQ0, ixQ1, r_eqP, r_neP, r_eqQ, r_neQ, r_eqL, r_neL, r_inP, r_ninP, lenP, slTo, slFrom, slLast, slLastN, revP, isLP, ↓sAP, ↓sLP, qT_0]
  refine wf_map (I := fun i γ => (i = 0 ∧ γ = [some (pL l), some (pT d), some .non, none, none]) ∨ ∃ m, Sz (4 * n + 1) m ∧ Mx (l.take i) d m ∧ γ = [some (pL l), some (pT d), some (qT m), none, none]) (.inl ⟨rfl, rfl⟩) ?_ ?_
  · intro i γ hi hI
    have zi := hz _ (List.getElem_mem hi)
    have sa := sz_al zi hd
    rcases hI with ⟨rfl, rfl⟩ | ⟨m, hs, hm, rfl⟩
    · dsimp? [ixP0, ixP1, ixQ0, ixQ1, r_eqP, r_neP, r_eqQ, r_neQ, r_eqL, r_neL, r_inP, r_ninP, lenP, slTo, slFrom, slLast, slLastN, revP, isLP, ↓sAP, ↓sLP, qT_0, lalong_spec zi hd (by omega)]
      refine .inr ⟨_, sa, ?_, rfl⟩
      cases l with
      | nil => exact absurd rfl hn0
      | cons x l => exact ⟨fun y hy => by rw [show y = x by simpa using hy]; exact Rat.le_refl, x, by simp, rfl⟩
    · have := hm.step hi
      dsimp? [ixP0, ixP1, ixQ0, ixQ1, r_eqP, r_neP, r_eqQ, r_neQ, r_eqL, r_neL, r_inP, r_ninP, lenP, slTo, slFrom, slLast, slLastN, revP, isLP, ↓sAP, ↓sLP, qT_0, lalong_spec zi hd (by omega), isQ, lunder_spec hs sa (by omega)]
      refine br_d (fun c => ?_) (fun c => ?_)
      · dsimp? [ixP0, ixP1, ixQ0, ixQ1, r_eqP, r_neP, r_eqQ, r_neQ, r_eqL, r_neL, r_inP, r_ninP, lenP, slTo, slFrom, slLast, slLastN, revP, isLP, ↓sAP, ↓sLP, qT_0]
        rw [if_pos c] at this
        exact .inr ⟨_, sa, this, rfl⟩
      · dsimp? [ixP0, ixP1, ixQ0, ixQ1, r_eqP, r_neP, r_eqQ, r_neQ, r_eqL, r_neL, r_inP, r_ninP, lenP, slTo, slFrom, slLast, slLastN, revP, isLP, ↓sAP, ↓sLP, qT_0]
        rw [if_neg c] at this
        exact .inr ⟨_, hs, this, rfl⟩
  · rintro γ (⟨h, _⟩ | ⟨m, hs, hm, rfl⟩)
    · exact absurd (List.length_eq_zero_iff.mp h) hn0
    · rw [List.take_length] at hm
      dsimp? [ixP0, ixP1, ixQ0, ixQ1, r_eqP, r_neP, r_eqQ, r_neQ, r_eqL, r_neL, r_inP, r_ninP, lenP, slTo, slFrom, slLast, slLastN, revP, isLP, ↓sAP, ↓sLP, qT_0]
      exact ⟨m, rfl, hm⟩
theorem larea_spec (hl : l.length ≤ 8) (hz : ∀ p ∈ l, Zp 5 p) : sem__law_area [pL l] = some (qT (A2 (sd l) / 2), []) := by
  refine wc_eq ?_
  unfold sem__law_area F__law_area
  dsimp? [ixP0, ixP1, ixQ0, ixQ1, r_eqP, r_neP, r_eqQ, r_neQ, r_eqL, r_neL, r_inP, r_ninP, lenP, slTo, slFrom, slLast, slLastN, revP, isLP, ↓sAP, ↓sLP, qT_0]
  refine sd_i (by omega) ?_
  dsimp? [ixP0, ixP1, ixQ0, ixQ1, r_eqP, r_neP, r_eqQ, r_neQ, r_eqL, r_neL, r_inP, r_ninP, lenP, slTo, slFrom, slLast, slLastN, revP, isLP, ↓sAP, ↓sLP, qT_0]
  rw [Int.toNat_natCast]
  have zs : ∀ e ∈ sd l, Zp 5 e.1 ∧ Zp 5 e.2 := fun e he => ⟨hz _ (mem_sd he).1, hz _ (mem_sd he).2⟩
  refine wf_rng (I := fun i γ => γ = [some (pL l), some (qT (A2 ((sd l).take i))), none, none, none]) rfl ?_ ?_
  · rintro k γ hk rfl
    rw [Int.zero_add]
    have i1 := ixC (l := l) (i := (k : Int) - 1) (by omega) (by omega)
    have i2 := ixL (l := l) hk
    rw [show ((k : Int) - 1 + l.length).toNat = k + l.length - 1 by omega] at i1
    have hi : k < (sd l).length := by rw [sd_len]; exact hk
    have ee : (sd l)[k] = (cy l (k + l.length - 1), g l k) := by
      simp [sd, cy_lt hk]
    have ze := zs _ (List.getElem_mem hi)
    rw [ee] at ze
    have st := sz_A2 (xs := (sd l).take k) (fun e h => zs e (List.mem_of_mem_take h))
    rw [List.length_take, sd_len, Nat.min_eq_left (by omega)] at st
    have m1 := sz_mul ze.1.1 ze.2.2
    have m2 := sz_mul ze.2.1 ze.1.2
    dsimp? [ixP0, ixP1, ixQ0, ixQ1, r_eqP, r_neP, r_eqQ, r_neQ, r_eqL, r_neL, r_inP, r_ninP, lenP, slTo, slFrom, slLast, slLastN, revP, isLP, ↓sAP, ↓sLP, qT_0, i1, i2, ltimes_spec ze.1.1 ze.2.2 (by omega), ltimes_spec ze.2.1 ze.1.2 (by omega), lminus_spec m1 m2 (by omega), lplus_spec st (sz_sub m1 m2) (by omega)]
    rw [A2_take hi, ee]
    rfl
  · rintro γ rfl
    have st := sz_A2 zs
    rw [sd_len] at st
    rw [List.take_of_length_le (by rw [sd_len]; exact Nat.le_refl _)]
    dsimp? [ixP0, ixP1, ixQ0, ixQ1, r_eqP, r_neP, r_eqQ, r_neQ, r_eqL, r_neL, r_inP, r_ninP, lenP, slTo, slFrom, slLast, slLastN, revP, isLP, ↓sAP, ↓sLP, qT_0, qT_2, lover_spec st (sz_2 (n := 0)) (by decide) (by omega)]
theorem lon_spec (ha : Zp n a) (hb : Zp n b) (hq : Zp n q) (h : n ≤ 24) : ∃ r, sem__law_on [pT a, pT b, pT q] = some (.bl r, []) ∧ (r = true ↔ On a b q) := by
  suffices h : @WC (sem__law_on [pT a, pT b, pT q]) ⟨fun t us => us = [] ∧ ∃ r, t = .bl r ∧ (r = true ↔ On a b q)⟩ by
    obtain ⟨t, us, e, rfl, b, rfl, k⟩ := h
    exact ⟨b, e, k⟩
  unfold sem__law_on F__law_on
  dsimp? [ixP0, ixP1, ixQ0, ixQ1, r_eqP, r_neP, r_eqQ, r_neQ, r_eqL, r_neL, r_inP, r_ninP, lenP, slTo, slFrom, slLast, slLastN, revP, isLP, ↓sAP, ↓sLP, qT_0, lturn_spec ha hb hq h]
  refine br_d (fun c => ?_) (fun c => ?_)
  · have c0 : cr a b q = 0 := num0.mp c
    have rl : rngT 0 2 = [T.int 0, T.int 1] := rfl
    have e : On a b q ↔ Box a b q := ⟨fun h => h.2, fun h => ⟨c0, h⟩⟩
    rw [e]
    unfold Box
    dsimp? [ixP0, ixP1, ixQ0, ixQ1, r_eqP, r_neP, r_eqQ, r_neQ, r_eqL, r_neL, r_inP, r_ninP, lenP, slTo, slFrom, slLast, slLastN, revP, isLP, ↓sAP, ↓sLP, qT_0, show Int.toNat 2 = 2 from rfl, rl, ↓wf_cons, ↓wf_nil, lunder_spec hq.1 ha.1 (by omega), lunder_spec hq.1 hb.1 (by omega), lunder_spec ha.1 hq.1 (by omega), lunder_spec hb.1 hq.1 (by omega), lunder_spec hq.2 ha.2 (by omega), lunder_spec hq.2 hb.2 (by omega), lunder_spec ha.2 hq.2 (by omega), lunder_spec hb.2 hq.2 (by omega)]
    repeat' first
      | refine br_d (fun _ => ?_) (fun _ => ?_)
      | dsimp? [ixP0, ixP1, ixQ0, ixQ1, r_eqP, r_neP, r_eqQ, r_neQ, r_eqL, r_neL, r_inP, r_ninP, lenP, slTo, slFrom, slLast, slLastN, revP, isLP, ↓sAP, ↓sLP, qT_0, show Int.toNat 2 = 2 from rfl, rl, ↓wf_cons, ↓wf_nil, lunder_spec hq.1 ha.1 (by omega), lunder_spec hq.1 hb.1 (by omega), lunder_spec ha.1 hq.1 (by omega), lunder_spec hb.1 hq.1 (by omega), lunder_spec hq.2 ha.2 (by omega), lunder_spec hq.2 hb.2 (by omega), lunder_spec ha.2 hq.2 (by omega), lunder_spec hb.2 hq.2 (by omega)]
    all_goals (refine ⟨_, rfl, ?_⟩; simp only [Bool.false_eq_true, false_iff, true_iff]; grind)
  · dsimp? [ixP0, ixP1, ixQ0, ixQ1, r_eqP, r_neP, r_eqQ, r_neQ, r_eqL, r_neL, r_inP, r_ninP, lenP, slTo, slFrom, slLast, slLastN, revP, isLP, ↓sAP, ↓sLP, qT_0]
    refine ⟨_, rfl, ?_⟩
    simp only [Bool.false_eq_true, false_iff]
    exact fun h => c (num0.mpr h.1)
theorem in_ix : In l q ↔ (∃ a b, a ≤ b ∧ b < l.length ∧ On (g l a) (g l b) q) ∨ ∃ a b c, a ≤ b ∧ b < c ∧ c < l.length ∧ Tri (g l a) (g l b) (g l c) q := by
  constructor
  · rintro (⟨a, ha, b, hb, h⟩ | ⟨a, ha, b, hb, c, hc, h⟩)
    · obtain ⟨i, hi, rfl⟩ := mem_g ha
      obtain ⟨j, hj, rfl⟩ := mem_g hb
      by_cases k : i ≤ j
      · exact .inl ⟨i, j, k, hj, h⟩
      · exact .inl ⟨j, i, by omega, hi, on_sw h⟩
    · obtain ⟨i, hi, rfl⟩ := mem_g ha
      obtain ⟨j, hj, rfl⟩ := mem_g hb
      obtain ⟨k, hk, rfl⟩ := mem_g hc
      have n1 : i ≠ j := fun e => h.1 (by rw [e, cr_aab])
      have n2 : j ≠ k := fun e => h.1 (by rw [e, cr_abb])
      have n3 : i ≠ k := fun e => h.1 (by rw [e, cr_aba])
      refine .inr ?_
      have h2 := tri_cy h
      have h3 := tri_cy h2
      by_cases c1 : i < j
      · by_cases c2 : j < k
        · exact ⟨i, j, k, by omega, c2, hk, h⟩
        · by_cases c3 : i < k
          · exact ⟨i, k, j, by omega, by omega, hj, tri_sw h3⟩
          · exact ⟨k, i, j, by omega, by omega, hj, h3⟩
      · by_cases c2 : j < k
        · by_cases c3 : i < k
          · exact ⟨j, i, k, by omega, by omega, hk, tri_sw h⟩
          · exact ⟨j, k, i, by omega, by omega, hi, h2⟩
        · exact ⟨k, j, i, by omega, by omega, hi, tri_sw h2⟩
  · rintro (⟨a, b, h1, h2, h⟩ | ⟨a, b, c, h1, h2, h3, h⟩)
    · exact .inl ⟨_, g_mem (by omega), _, g_mem h2, h⟩
    · exact .inr ⟨_, g_mem (by omega), _, g_mem (by omega), _, g_mem h3, h⟩
theorem min3 {x y z : Int} : gMinL [.lst [.int x, .int y, .int z]] = some (.int (min x (min y z))) := rfl
theorem max3 {x y z : Int} : gMaxL [.lst [.int x, .int y, .int z]] = some (.int (max x (max y z))) := rfl
theorem linside_spec (hl : l.length ≤ 1000) (hz : ∀ p ∈ l, Zp n p) (hq : Zp n q) (h : n ≤ 24) : ∃ r, sem__law_inside [pL l, pT q] = some (.bl r, []) ∧ (r = true ↔ In l q) := by
  suffices h : @WC (sem__law_inside [pL l, pT q]) ⟨fun t us => us = [] ∧ ∃ r, t = .bl r ∧ (r = true ↔ In l q)⟩ by
    obtain ⟨t, us, e, rfl, b, rfl, k⟩ := h
    exact ⟨b, e, k⟩
  have zg : ∀ {i}, i < l.length → Zp n (g l i) := fun hi => hz _ (g_mem hi)
  rw [in_ix]
  unfold sem__law_inside F__law_inside
  dsimp? [ixP0, ixP1, ixQ0, ixQ1, r_eqP, r_neP, r_eqQ, r_neQ, r_eqL, r_neL, r_inP, r_ninP, lenP, slTo, slFrom, slLast, slLastN, revP, isLP, ↓sAP, ↓sLP, qT_0]
  refine sd_i (by omega) ?_
  dsimp? [ixP0, ixP1, ixQ0, ixQ1, r_eqP, r_neP, r_eqQ, r_neQ, r_eqL, r_neL, r_inP, r_ninP, lenP, slTo, slFrom, slLast, slLastN, revP, isLP, ↓sAP, ↓sLP, qT_0]
  rw [Int.toNat_natCast]
  refine wf_rng (I := fun i γ => γ = [some (pL l), some (pT q), none, none, none, none] ∧ ∀ a, a < i → ∀ b, a ≤ b → b < l.length → ¬ On (g l a) (g l b) q ∧ ∀ c, b < c → c < l.length → ¬ Tri (g l a) (g l b) (g l c) q) ⟨rfl, fun a h => absurd h (by omega)⟩ ?_ ?_
  · rintro a γ ha ⟨rfl, hA⟩
    rw [Int.zero_add]
    dsimp? [ixP0, ixP1, ixQ0, ixQ1, r_eqP, r_neP, r_eqQ, r_neQ, r_eqL, r_neL, r_inP, r_ninP, lenP, slTo, slFrom, slLast, slLastN, revP, isLP, ↓sAP, ↓sLP, qT_0]
    refine sd_i (by omega) ?_
    dsimp? [ixP0, ixP1, ixQ0, ixQ1, r_eqP, r_neP, r_eqQ, r_neQ, r_eqL, r_neL, r_inP, r_ninP, lenP, slTo, slFrom, slLast, slLastN, revP, isLP, ↓sAP, ↓sLP, qT_0]
    rw [show ((l.length : Int) - (a : Int)).toNat = l.length - a by omega]
    refine wf_rng (I := fun j γ => ∃ x3 x4 x5, γ = [some (pL l), some (pT q), some (.int a), x3, x4, x5] ∧ ∀ b, a ≤ b → b < a + j → ¬ On (g l a) (g l b) q ∧ ∀ c, b < c → c < l.length → ¬ Tri (g l a) (g l b) (g l c) q) ⟨_, _, _, rfl, fun b h1 h2 => absurd h2 (by omega)⟩ ?_ ?_
    · rintro j γ hj ⟨x3, x4, x5, rfl, hB⟩
      have hb : a + j < l.length := by omega
      rw [show (a : Int) + (j : Int) = ((a + j : Nat) : Int) from rfl]
      obtain ⟨r, er, kr⟩ := lon_spec (zg ha) (zg hb) hq h
      dsimp? [ixP0, ixP1, ixQ0, ixQ1, r_eqP, r_neP, r_eqQ, r_neQ, r_eqL, r_neL, r_inP, r_ninP, lenP, slTo, slFrom, slLast, slLastN, revP, isLP, ↓sAP, ↓sLP, qT_0, ixL ha, ixL hb, er]
      refine br_i (fun c => ?_) (fun c => ?_)
      · dsimp? [ixP0, ixP1, ixQ0, ixQ1, r_eqP, r_neP, r_eqQ, r_neQ, r_eqL, r_neL, r_inP, r_ninP, lenP, slTo, slFrom, slLast, slLastN, revP, isLP, ↓sAP, ↓sLP, qT_0]
        exact ⟨_, rfl, by simp only [true_iff]; exact .inl ⟨a, a + j, by omega, hb, kr.mp c⟩⟩
      · have nO : ¬ On (g l a) (g l (a + j)) q := fun k => by rw [kr.mpr k] at c; cases c
        dsimp? [ixP0, ixP1, ixQ0, ixQ1, r_eqP, r_neP, r_eqQ, r_neQ, r_eqL, r_neL, r_inP, r_ninP, lenP, slTo, slFrom, slLast, slLastN, revP, isLP, ↓sAP, ↓sLP, qT_0]
        refine sd_i (by omega) ?_
        dsimp? [ixP0, ixP1, ixQ0, ixQ1, r_eqP, r_neP, r_eqQ, r_neQ, r_eqL, r_neL, r_inP, r_ninP, lenP, slTo, slFrom, slLast, slLastN, revP, isLP, ↓sAP, ↓sLP, qT_0]
        rw [show ((l.length : Int) - (((a + j : Nat) : Int) + 1)).toNat = l.length - (a + j + 1) by omega]
        refine wf_rng (I := fun k γ => ∃ x4 x5, γ = [some (pL l), some (pT q), some (.int a), some (.int ((a + j : Nat) : Int)), x4, x5] ∧ ∀ c, a + j < c → c < a + j + 1 + k → ¬ Tri (g l a) (g l (a + j)) (g l c) q) ⟨_, _, rfl, fun c h1 h2 => absurd h2 (by omega)⟩ ?_ ?_
        · rintro k γ hk ⟨x4, x5, rfl, hC⟩
          have hc : a + j + 1 + k < l.length := by omega
          rw [show ((a + j : Nat) : Int) + 1 + (k : Int) = ((a + j + 1 + k : Nat) : Int) from rfl]
          have t1 := lturn_spec (zg ha) (zg hb) hq h
          have t2 := lturn_spec (zg hb) (zg hc) hq h
          have t3 := lturn_spec (zg hc) (zg ha) hq h
          have t4 := lturn_spec (zg ha) (zg hb) (zg hc) h
          dsimp? [ixP0, ixP1, ixQ0, ixQ1, r_eqP, r_neP, r_eqQ, r_neQ, r_eqL, r_neL, r_inP, r_ninP, lenP, slTo, slFrom, slLast, slLastN, revP, isLP, ↓sAP, ↓sLP, qT_0, ixL ha, ixL hb, ixL hc, t1, t2, t3, t4, min3, max3]
          have no : ¬ Tri (g l a) (g l (a + j)) (g l (a + j + 1 + k)) q → ∀ c, a + j < c → c < a + j + 1 + (k + 1) → ¬ Tri (g l a) (g l (a + j)) (g l c) q := fun hn c h1 h2 => by
            by_cases e : c = a + j + 1 + k
            · rw [e]; exact hn
            · exact hC c h1 (by omega)
          refine br_d (fun d => ?_) (fun d => ?_)
          · dsimp? [ixP0, ixP1, ixQ0, ixQ1, r_eqP, r_neP, r_eqQ, r_neQ, r_eqL, r_neL, r_inP, r_ninP, lenP, slTo, slFrom, slLast, slLastN, revP, isLP, ↓sAP, ↓sLP, qT_0]
            exact ⟨_, _, rfl, no fun z => z.1 (num0.mp d)⟩
          · have d0 : cr (g l a) (g l (a + j)) (g l (a + j + 1 + k)) ≠ 0 := fun z => d (num0.mpr z)
            dsimp? [ixP0, ixP1, ixQ0, ixQ1, r_eqP, r_neP, r_eqQ, r_neQ, r_eqL, r_neL, r_inP, r_ninP, lenP, slTo, slFrom, slLast, slLastN, revP, isLP, ↓sAP, ↓sLP, qT_0, ixL ha, ixL hb, ixL hc, t1, t2, t3, t4, min3, max3]
            refine br_d (fun d1 => ?_) (fun d1 => ?_)
            · dsimp? [ixP0, ixP1, ixQ0, ixQ1, r_eqP, r_neP, r_eqQ, r_neQ, r_eqL, r_neL, r_inP, r_ninP, lenP, slTo, slFrom, slLast, slLastN, revP, isLP, ↓sAP, ↓sLP, qT_0]
              refine ⟨_, rfl, ?_⟩
              simp only [true_iff]
              refine .inr ⟨a, a + j, a + j + 1 + k, by omega, by omega, hc, d0, .inl ⟨numnn.mp (by omega), numnn.mp (by omega), numnn.mp (by omega)⟩⟩
            · dsimp? [ixP0, ixP1, ixQ0, ixQ1, r_eqP, r_neP, r_eqQ, r_neQ, r_eqL, r_neL, r_inP, r_ninP, lenP, slTo, slFrom, slLast, slLastN, revP, isLP, ↓sAP, ↓sLP, qT_0, max3]
              refine br_d (fun d2 => ?_) (fun d2 => ?_)
              · dsimp? [ixP0, ixP1, ixQ0, ixQ1, r_eqP, r_neP, r_eqQ, r_neQ, r_eqL, r_neL, r_inP, r_ninP, lenP, slTo, slFrom, slLast, slLastN, revP, isLP, ↓sAP, ↓sLP, qT_0]
                refine ⟨_, rfl, ?_⟩
                simp only [true_iff]
                refine .inr ⟨a, a + j, a + j + 1 + k, by omega, by omega, hc, d0, .inr ⟨numnp.mp (by omega), numnp.mp (by omega), numnp.mp (by omega)⟩⟩
              · dsimp? [ixP0, ixP1, ixQ0, ixQ1, r_eqP, r_neP, r_eqQ, r_neQ, r_eqL, r_neL, r_inP, r_ninP, lenP, slTo, slFrom, slLast, slLastN, revP, isLP, ↓sAP, ↓sLP, qT_0]
                refine ⟨_, _, rfl, no fun z => ?_⟩
                rcases z.2 with ⟨z1, z2, z3⟩ | ⟨z1, z2, z3⟩
                · have := numnn.mpr z1
                  have := numnn.mpr z2
                  have := numnn.mpr z3
                  omega
                · have := numnp.mpr z1
                  have := numnp.mpr z2
                  have := numnp.mpr z3
                  omega
        · rintro γ ⟨x4, x5, rfl, hC⟩
          dsimp? [ixP0, ixP1, ixQ0, ixQ1, r_eqP, r_neP, r_eqQ, r_neQ, r_eqL, r_neL, r_inP, r_ninP, lenP, slTo, slFrom, slLast, slLastN, revP, isLP, ↓sAP, ↓sLP, qT_0]
          refine ⟨_, _, _, rfl, fun b h1 h2 => ?_⟩
          by_cases e : b = a + j
          · rw [e]; exact ⟨nO, fun c h1 h2 => hC c h1 (by omega)⟩
          · exact hB b h1 (by omega)
    · rintro γ ⟨x3, x4, x5, rfl, hB⟩
      dsimp? [ixP0, ixP1, ixQ0, ixQ1, r_eqP, r_neP, r_eqQ, r_neQ, r_eqL, r_neL, r_inP, r_ninP, lenP, slTo, slFrom, slLast, slLastN, revP, isLP, ↓sAP, ↓sLP, qT_0]
      refine fun a' h1 b h2 h3 => ?_
      by_cases e : a' = a
      · subst e; exact hB b h2 (by omega)
      · exact hA a' (by omega) b h2 h3
  · rintro γ ⟨rfl, hA⟩
    dsimp? [ixP0, ixP1, ixQ0, ixQ1, r_eqP, r_neP, r_eqQ, r_neQ, r_eqL, r_neL, r_inP, r_ninP, lenP, slTo, slFrom, slLast, slLastN, revP, isLP, ↓sAP, ↓sLP, qT_0]
    refine ⟨_, rfl, ?_⟩
    simp only [Bool.false_eq_true, false_iff]
    rintro (⟨a, b, h1, h2, k⟩ | ⟨a, b, c, h1, h2, h3, k⟩)
    · exact (hA a (by omega) b h1 h2).1 k
    · exact (hA a (by omega) b h1 (by omega)).2 c h2 h3 k
end
end LawS

namespace LawS
open Tw L2 LawP Hl
theorem nd_len : ∀ {l m : List P}, l.Nodup → (∀ x ∈ l, x ∈ m) → l.length ≤ m.length
  | [], _, _, _ => by simp
  | a :: l, m, nd, h => by
    obtain ⟨n1, n2⟩ := List.nodup_cons.mp nd
    have ha := h a (by simp)
    have := nd_len (m := m.erase a) n2 fun x hx => (List.mem_erase_of_ne (fun e => n1 (by rw [← e]; exact hx))).mpr (h x (List.mem_cons_of_mem _ hx))
    rw [List.length_erase_of_mem ha] at this
    have := List.length_pos_of_mem ha
    rw [List.length_cons]
    omega
theorem nd_full {l m : List P} (nd : l.Nodup) (h : ∀ x ∈ l, x ∈ m) (hl : m.length ≤ l.length) : ∀ x ∈ m, x ∈ l := fun x hx => by
  apply Classical.byContradiction
  intro hn
  have := nd_len (l := x :: l) (m := m) (List.nodup_cons.mpr ⟨hn, nd⟩) fun y hy => by
    rcases List.mem_cons.mp hy with rfl | hy
    · exact hx
    · exact h y hy
  rw [List.length_cons] at this
  omega
section
variable {l : List P} {n : Nat}
theorem mem_take_s {α : Type} {l : List α} {i : Nat} (h : i < l.length) {x : α} : x ∈ l.take (i + 1) ↔ x ∈ l.take i ∨ x = l[i] := by
  rw [List.take_add_one, List.getElem?_eq_getElem h, List.mem_append]
  simp
theorem lcorners_spec (hl : l.length ≤ 1000) (hz : ∀ p ∈ l, Zp n p) (h : n ≤ 24) : ∃ c, sem__law_corners [pL l] = some (pL c, []) ∧ c.Nodup ∧ ∀ p, p ∈ c ↔ p ∈ l ∧ ¬ In (wo l p) p := by
  suffices h : @WC (sem__law_corners [pL l]) ⟨fun t us => us = [] ∧ ∃ c, t = pL c ∧ c.Nodup ∧ ∀ p, p ∈ c ↔ p ∈ l ∧ ¬ In (wo l p) p⟩ by
    obtain ⟨t, us, e, rfl, b, rfl, k⟩ := h
    exact ⟨b, e, k⟩
  unfold sem__law_corners F__law_corners
  dsimp? [ixP0, ixP1, ixQ0, ixQ1, r_eqP, r_neP, r_eqQ, r_neQ, r_eqL, r_neL, r_inP, r_ninP, lenP, slTo, slFrom, slLast, slLastN, revP, isLP, ↓sAP, ↓sLP, qT_0]
  refine wf_map (I := fun i γ => ∃ e x2, e.Nodup ∧ (∀ p, p ∈ e ↔ p ∈ l.take i) ∧ γ = [some (pL l), some (pL e), x2, none, none, none]) ⟨[], none, by simp, by simp, rfl⟩ ?_ ?_
  · rintro i γ hi ⟨e, x2, nd, me, rfl⟩
    have le : e.length ≤ l.length := nd_len nd fun x hx => List.mem_of_mem_take ((me x).mp hx)
    dsimp? [ixP0, ixP1, ixQ0, ixQ1, r_eqP, r_neP, r_eqQ, r_neQ, r_eqL, r_neL, r_inP, r_ninP, lenP, slTo, slFrom, slLast, slLastN, revP, isLP, ↓sAP, ↓sLP, qT_0]
    refine br_d (fun c => ?_) (fun c => ?_)
    · dsimp? [ixP0, ixP1, ixQ0, ixQ1, r_eqP, r_neP, r_eqQ, r_neQ, r_eqL, r_neL, r_inP, r_ninP, lenP, slTo, slFrom, slLast, slLastN, revP, isLP, ↓sAP, ↓sLP, qT_0]
      exact ⟨e, _, nd, fun p => by rw [mem_take_s hi, me]; exact ⟨.inl, fun k => k.elim id fun k => by rw [k]; exact (me _).mp c⟩, rfl⟩
    · dsimp? [ixP0, ixP1, ixQ0, ixQ1, r_eqP, r_neP, r_eqQ, r_neQ, r_eqL, r_neL, r_inP, r_ninP, lenP, slTo, slFrom, slLast, slLastN, revP, isLP, ↓sAP, ↓sLP, qT_0, appP (l := e) (a := l[i]) (by omega)]
      refine ⟨e ++ [l[i]], _, List.nodup_append.mpr ⟨nd, by simp, fun a ha b hb k => c (by rw [← List.mem_singleton.mp hb, ← k]; exact ha)⟩, fun p => ?_, rfl⟩
      rw [mem_take_s hi, List.mem_append, me, List.mem_singleton]
  · rintro γ ⟨e, x2, nd, me, rfl⟩
    rw [List.take_length] at me
    have le : e.length ≤ l.length := nd_len nd fun x hx => (me x).mp hx
    dsimp? [ixP0, ixP1, ixQ0, ixQ1, r_eqP, r_neP, r_eqQ, r_neQ, r_eqL, r_neL, r_inP, r_ninP, lenP, slTo, slFrom, slLast, slLastN, revP, isLP, ↓sAP, ↓sLP, qT_0]
    refine wf_map (I := fun i γ => ∃ f x2, f.Nodup ∧ (∀ p, p ∈ f ↔ p ∈ e.take i ∧ ¬ In (wo l p) p) ∧ γ = [some (pL l), some (pL e), x2, some (pL f), none, none]) ⟨[], _, by simp, by simp, rfl⟩ ?_ ?_
    · rintro i γ hi ⟨f, x2, nf, mf, rfl⟩
      have lf : f.length ≤ e.length := nd_len nf fun x hx => List.mem_of_mem_take ((mf x).mp hx).1
      have hei : e[i] ∈ l := (me _).mp (List.getElem_mem hi)
      dsimp? [ixP0, ixP1, ixQ0, ixQ1, r_eqP, r_neP, r_eqQ, r_neQ, r_eqL, r_neL, r_inP, r_ninP, lenP, slTo, slFrom, slLast, slLastN, revP, isLP, ↓sAP, ↓sLP, qT_0]
      refine wco_fmx (fun x => if x = e[i] then none else some (pT x)) (by omega) (fun x hx => ?_) ?_
      · dsimp? [ixP0, ixP1, ixQ0, ixQ1, r_eqP, r_neP, r_eqQ, r_neQ, r_eqL, r_neL, r_inP, r_ninP, lenP, slTo, slFrom, slLast, slLastN, revP, isLP, ↓sAP, ↓sLP, qT_0]
        refine br_d (fun c => ?_) (fun c => ?_)
        · dsimp? [ixP0, ixP1, ixQ0, ixQ1, r_eqP, r_neP, r_eqQ, r_neQ, r_eqL, r_neL, r_inP, r_ninP, lenP, slTo, slFrom, slLast, slLastN, revP, isLP, ↓sAP, ↓sLP, qT_0]
          exact if_pos c
        · dsimp? [ixP0, ixP1, ixQ0, ixQ1, r_eqP, r_neP, r_eqQ, r_neQ, r_eqL, r_neL, r_inP, r_ninP, lenP, slTo, slFrom, slLast, slLastN, revP, isLP, ↓sAP, ↓sLP, qT_0]
          exact if_neg c
      · have ef : T.lst (e.filterMap fun x => if x = e[i] then none else some (pT x)) = pL (wo e e[i]) := by
          have : ∀ (u : List P) (y : P), u.filterMap (fun x => if x = y then none else some (pT x)) = (wo u y).map pT := by
            intro u y
            induction u with
            | nil => rfl
            | cons x u ih =>
              by_cases c : x = y <;> simp [List.filterMap_cons, c, ih, wo] <;> simpa [wo] using ih
          rw [this]
          rfl
        have zw : ∀ p ∈ wo e e[i], Zp n p := fun p hp => hz p ((me p).mp (mem_wo.mp hp).1)
        have lw : (wo e e[i]).length ≤ e.length := List.length_filter_le ..
        obtain ⟨r, er, kr⟩ := linside_spec (q := e[i]) (by omega) zw (hz _ hei) h
        have kr' : r = true ↔ In (wo l e[i]) e[i] := by
          rw [kr]
          constructor
          · exact fun k => k.mono fun x hx => mem_wo.mpr ⟨(me x).mp (mem_wo.mp hx).1, (mem_wo.mp hx).2⟩
          · exact fun k => k.mono fun x hx => mem_wo.mpr ⟨(me x).mpr (mem_wo.mp hx).1, (mem_wo.mp hx).2⟩
        have ni : e[i] ∉ f := fun k => by
          have := ((mf _).mp k).1
          obtain ⟨j, hj, ej⟩ := List.getElem_of_mem this
          rw [List.length_take] at hj
          rw [List.getElem_take] at ej
          have := (List.getElem_inj nd).mp ej
          omega
        dsimp? [ixP0, ixP1, ixQ0, ixQ1, r_eqP, r_neP, r_eqQ, r_neQ, r_eqL, r_neL, r_inP, r_ninP, lenP, slTo, slFrom, slLast, slLastN, revP, isLP, ↓sAP, ↓sLP, qT_0, ef, er]
        refine br_i (fun c => ?_) (fun c => ?_)
        · dsimp? [ixP0, ixP1, ixQ0, ixQ1, r_eqP, r_neP, r_eqQ, r_neQ, r_eqL, r_neL, r_inP, r_ninP, lenP, slTo, slFrom, slLast, slLastN, revP, isLP, ↓sAP, ↓sLP, qT_0]
          refine ⟨f, _, nf, fun p => ?_, rfl⟩
          rw [mem_take_s hi, mf]
          exact ⟨fun k => ⟨.inl k.1, k.2⟩, fun k => ⟨k.1.elim id fun z => absurd (by rw [z]; exact kr'.mp c) k.2, k.2⟩⟩
        · dsimp? [ixP0, ixP1, ixQ0, ixQ1, r_eqP, r_neP, r_eqQ, r_neQ, r_eqL, r_neL, r_inP, r_ninP, lenP, slTo, slFrom, slLast, slLastN, revP, isLP, ↓sAP, ↓sLP, qT_0, appP (l := f) (a := e[i]) (by omega)]
          refine ⟨f ++ [e[i]], _, List.nodup_append.mpr ⟨nf, by simp, fun a ha b hb k => ni (by rw [← List.mem_singleton.mp hb, ← k]; exact ha)⟩, fun p => ?_, rfl⟩
          rw [mem_take_s hi, List.mem_append, mf, List.mem_singleton]
          constructor
          · rintro (k | k)
            · exact ⟨.inl k.1, k.2⟩
            · exact ⟨.inr k, by rw [k]; exact fun z => by rw [kr'.mpr z] at c; cases c⟩
          · rintro ⟨k | k, k2⟩
            · exact .inl ⟨k, k2⟩
            · exact .inr k
    · rintro γ ⟨f, x2, nf, mf, rfl⟩
      rw [List.take_length] at mf
      dsimp? [ixP0, ixP1, ixQ0, ixQ1, r_eqP, r_neP, r_eqQ, r_neQ, r_eqL, r_neL, r_inP, r_ninP, lenP, slTo, slFrom, slLast, slLastN, revP, isLP, ↓sAP, ↓sLP, qT_0]
      exact ⟨f, rfl, nf, fun p => by rw [mf, me]⟩
end
end LawS

namespace Tw
open PySem.W PySem PyProof.Rows
noncomputable abbrev srt (l : List T) : List T := l.mergeSort (dataLe false toD)
theorem le_total : TotalLe (dataLe false toD) := sortLe_total _ _ _
theorem le_anti {a b : T} (h1 : dataLe false toD a b = true) (h2 : dataLe false toD b a = true) : keyToks (toD a) = keyToks (toD b) := by
  have e1 : (!(PyProof.Rows.KeyOrd.blt (listOrd itemOrd) (keyToks (toD b)) (keyToks (toD a)))) = true := h1
  have e2 : (!(PyProof.Rows.KeyOrd.blt (listOrd itemOrd) (keyToks (toD a)) (keyToks (toD b)))) = true := h2
  rw [Bool.not_eq_true'] at e1 e2
  exact (listOrd itemOrd).total _ _ e2 e1
theorem sort_perm {l m : List T} (hp : l.Perm m) (hi : ∀ a ∈ l, ∀ b ∈ l, keyToks (toD a) = keyToks (toD b) → a = b) : srt l = srt m := by
  refine List.Perm.eq_of_pairwise (le := fun a b => dataLe false toD a b = true) ?_ (sort_pairwise le_total l) (sort_pairwise le_total m) ?_
  · intro a b ha hb h1 h2
    have ha' := (List.mergeSort_perm l _).mem_iff.mp ha
    have hb' := hp.mem_iff.mpr ((List.mergeSort_perm m _).mem_iff.mp hb)
    exact hi a ha' b hb' (le_anti h1 h2)
  · exact (List.mergeSort_perm l _).trans (hp.trans (List.mergeSort_perm m _).symm)
theorem toks_int {x : Int} : keyToks (.int x) = [.inl x] := by rw [keyToks]
theorem toksA_ints : ∀ (a b : List Int), keyToksAll (toDs (a.map T.int)) = keyToksAll (toDs (b.map T.int)) → a = b
  | [], [], _ => rfl
  | [], y :: b, h => by simp [toDs, keyToksAll] at h
  | x :: a, [], h => by simp [toDs, keyToksAll] at h
  | x :: a, y :: b, h => by
    simp [toDs, toD, keyToksAll, keyToks] at h
    rw [h.1, toksA_ints a b h.2]
theorem toks_L {a b : List Int} (h : keyToks (toD (.lst (a.map T.int))) = keyToks (toD (.lst (b.map T.int)))) : a = b := by
  have e : ∀ c : List T, keyToks (toD (.lst c)) = keyToksAll (toDs c) := fun c => by
    show keyToks (.list (toDs c)) = _
    rw [keyToks]
  rw [e, e] at h
  exact toksA_ints a b h
theorem toks_net {p q r s p' q' r' s' : Int} (h : keyToks (toD (.tup [.tup [.int p, .int q], .tup [.int r, .int s]])) = keyToks (toD (.tup [.tup [.int p', .int q'], .tup [.int r', .int s']]))) : p = p' ∧ q = q' ∧ r = r' ∧ s = s' := by
  simp [toD, toDs, keyToks, keyToksAll] at h
  exact ⟨h.1, h.2.1, h.2.2.1, h.2.2.2⟩
end Tw

namespace LawS
open Tw L2 LawP Hl
theorem numpos {x : Rat} : 0 < x.num ↔ 0 < x := by
  have := numnp (x := x)
  constructor
  · intro h; have := mt this.mpr (by omega); grind
  · intro h; have := mt this.mp (by grind); omega
theorem pT_net (p : P) : pT p = .tup [.tup [.int p.1.num, .int p.1.den], .tup [.int p.2.num, .int p.2.den]] := rfl
theorem sort_ok (l : List P) : gSortD [pL l] = some (.lst (srt (l.map pT))) := by
  have g1 : (l.map pT).all okT = true := List.all_eq_true.mpr fun t ht => by
    obtain ⟨p, _, rfl⟩ := List.mem_map.mp ht
    rfl
  have g2 : PySem.W.AllAlike (toDs (l.map pT)) := by
    rw [toDs_map]
    intro d hd d' hd'
    obtain ⟨t, ht, rfl⟩ := List.mem_map.mp hd
    obtain ⟨t', ht', rfl⟩ := List.mem_map.mp hd'
    obtain ⟨p, _, rfl⟩ := List.mem_map.mp ht
    obtain ⟨p', _, rfl⟩ := List.mem_map.mp ht'
    rfl
  have g3 : PySem.W.Sortable (toDs (l.map pT)) := by
    rw [toDs_map]
    refine .inl fun d hd => ?_
    obtain ⟨t, ht, rfl⟩ := List.mem_map.mp hd
    obtain ⟨p, _, rfl⟩ := List.mem_map.mp ht
    exact ⟨_, _, rfl⟩
  unfold gSortD pL
  simp only
  rw [if_pos ⟨g1, g2, g3⟩]
theorem all_pT : ∀ {ts : List T}, (∀ t ∈ ts, ∃ p, t = pT p) → ∃ l : List P, ts = l.map pT
  | [], _ => ⟨[], rfl⟩
  | t :: ts, h => by
    obtain ⟨p, rfl⟩ := h t (by simp)
    obtain ⟨l, rfl⟩ := all_pT fun t ht => h t (List.mem_cons_of_mem _ ht)
    exact ⟨p :: l, rfl⟩
theorem pT_inj {a b : P} (h : PySem.W.keyToks (toD (pT a)) = PySem.W.keyToks (toD (pT b))) : a = b := by
  rw [pT_net, pT_net] at h
  obtain ⟨h1, h2, h3, h4⟩ := toks_net h
  exact Prod.ext (qT_inj.mp ⟨h1, h2⟩) (qT_inj.mp ⟨h3, h4⟩)
theorem sort_same {l m : List P} (h : l.Perm m) : ∃ s, gSortD [pL l] = some (pL s) ∧ gSortD [pL m] = some (pL s) := by
  have e := sort_perm (h.map pT) fun a ha b hb k => by
    obtain ⟨p, _, rfl⟩ := List.mem_map.mp ha
    obtain ⟨p', _, rfl⟩ := List.mem_map.mp hb
    rw [pT_inj k]
  obtain ⟨s, es⟩ := all_pT (ts := srt (l.map pT)) fun t ht => by
    obtain ⟨p, _, rfl⟩ := List.mem_map.mp ((List.mergeSort_perm _ _).mem_iff.mp ht)
    exact ⟨p, rfl⟩
  refine ⟨s, ?_, ?_⟩
  · rw [sort_ok, es]; rfl
  · rw [sort_ok, ← e, es]; rfl
/-! what is a shape -/
theorem is_fraction_spec (x : Rat) : sem_is_fraction [qT x] = some (.bl true, []) := by
  have hg : Nat.gcd x.num.natAbs (x.den : Int).natAbs = 1 := x.reduced
  have hd : (0 : Int) < x.den := by have := x.den_nz; omega
  refine wc_eq ?_
  unfold sem_is_fraction F_is_fraction qT
  dsimp? [Int.cast_ofNat_Int, Int.natCast_one, Int.natCast_zero, ixP0, ixP1, ixQ0, ixQ1, r_eqP, r_neP, r_eqQ, r_neQ, r_eqL, r_neL, r_inP, r_ninP, lenP, slTo, slFrom, slLast, slLastN, revP, isLP, ↓sAP, ↓sLP, qT_0, isi_t_t, isi_i_i, isi_b_i, ↓wf_cons, ↓wf_nil, hg, decide_eq_true hd]
theorem gAll_tt {α : Type} {xs : List α} : gAll [.lst (xs.map fun _ => T.bl true)] = some (.bl true) := by
  have : xs.map (fun _ => T.bl true) = (xs.map fun _ => true).map T.bl := by rw [List.map_map]; rfl
  rw [this, gAll_bls]
  congr 2
  rw [List.all_eq_true]
  intro b hb
  obtain ⟨_, _, rfl⟩ := List.mem_map.mp hb
  rfl
theorem is_point_spec (p : P) : sem_is_point [pT p] = some (.bl true, []) := by
  refine wc_eq ?_
  unfold sem_is_point F_is_point pT
  dsimp? [Int.cast_ofNat_Int, Int.natCast_one, Int.natCast_zero, ixP0, ixP1, ixQ0, ixQ1, r_eqP, r_neP, r_eqQ, r_neQ, r_eqL, r_neL, r_inP, r_ninP, lenP, slTo, slFrom, slLast, slLastN, revP, isLP, ↓sAP, ↓sLP, qT_0, isi_t_t]
  have e : [qT p.1, qT p.2] = [p.1, p.2].map qT := rfl
  rw [e]
  refine wco_mapx (fun _ => T.bl true) (by simp) (fun x _ => ?_) ?_
  · dsimp? [is_fraction_spec]
  · dsimp? [gAll_tt]
theorem truPL {l : List P} : truT (pL l) = some (!l.isEmpty) := by
  show some (!(l.map pT).isEmpty) = _
  cases l <;> rfl
theorem isiPL {l : List P} : gIsi "list" (pL l) = some (.bl true) := isi_l_l
section
variable {l : List P} {n : Nat}
theorem is_shape_spec (hl : l.length ≤ 100000) (hz : ∀ p ∈ l, Zp n p) (hn : 8 * n + 10 ≤ 9000) : ∃ r, sem_is_shape [pL l] = some (.bl r, []) ∧ (r = true ↔ l ≠ [] ∧ HU l = l) := by
  suffices h : @WC (sem_is_shape [pL l]) ⟨fun t us => us = [] ∧ ∃ r, t = .bl r ∧ (r = true ↔ l ≠ [] ∧ HU l = l)⟩ by
    obtain ⟨t, us, e, rfl, b, rfl, k⟩ := h
    exact ⟨b, e, k⟩
  unfold sem_is_shape F_is_shape
  dsimp? [Int.cast_ofNat_Int, Int.natCast_one, Int.natCast_zero, ixP0, ixP1, ixQ0, ixQ1, r_eqP, r_neP, r_eqQ, r_neQ, r_eqL, r_neL, r_inP, r_ninP, lenP, slTo, slFrom, slLast, slLastN, revP, isLP, ↓sAP, ↓sLP, qT_0, isiPL, truPL]
  by_cases c : l = []
  · subst c
    dsimp? [Int.cast_ofNat_Int, Int.natCast_one, Int.natCast_zero, ixP0, ixP1, ixQ0, ixQ1, r_eqP, r_neP, r_eqQ, r_neQ, r_eqL, r_neL, r_inP, r_ninP, lenP, slTo, slFrom, slLast, slLastN, revP, isLP, ↓sAP, ↓sLP, qT_0, List.isEmpty_nil]
    exact ⟨_, rfl, by simp⟩
  · have e : l.isEmpty = false := by cases l with
      | nil => exact absurd rfl c
      | cons _ _ => rfl
    rw [e]
    dsimp? [Int.cast_ofNat_Int, Int.natCast_one, Int.natCast_zero, ixP0, ixP1, ixQ0, ixQ1, r_eqP, r_neP, r_eqQ, r_neQ, r_eqL, r_neL, r_inP, r_ninP, lenP, slTo, slFrom, slLast, slLastN, revP, isLP, ↓sAP, ↓sLP, qT_0]
    refine wco_mapx (fun _ => T.bl true) (by omega) (fun x _ => ?_) ?_
    · dsimp? [is_point_spec]
    · dsimp? [Int.cast_ofNat_Int, Int.natCast_one, Int.natCast_zero, ixP0, ixP1, ixQ0, ixQ1, r_eqP, r_neP, r_eqQ, r_neQ, r_eqL, r_neL, r_inP, r_ninP, lenP, slTo, slFrom, slLast, slLastN, revP, isLP, ↓sAP, ↓sLP, qT_0, gAll_tt, hull_spec hl hz hn]
      exact ⟨_, rfl, by simp [c]⟩
theorem judge_hull_spec {m : List P} (hl : l.length ≤ 100000) (hz : ∀ p ∈ l, Zp n p) (hn : 8 * n + 10 ≤ 9000) : sem_judge_hull [pL l, pL m] = some (.bl (decide (HU l = m)), []) := by
  refine wc_eq ?_
  unfold sem_judge_hull F_judge_hull
  dsimp? [Int.cast_ofNat_Int, Int.natCast_one, Int.natCast_zero, ixP0, ixP1, ixQ0, ixQ1, r_eqP, r_neP, r_eqQ, r_neQ, r_eqL, r_neL, r_inP, r_ninP, lenP, slTo, slFrom, slLast, slLastN, revP, isLP, ↓sAP, ↓sLP, qT_0, hull_spec hl hz hn]
theorem dup_iff : l.Nodup ↔ ∀ k, k < l.length → g l k ∉ l.take k := by
  constructor
  · intro nd k hk h
    obtain ⟨j, hj, e⟩ := mem_g h
    rw [List.length_take] at hj
    rw [g_take (by omega)] at e
    have := nd_g nd hk (by omega) e
    omega
  · intro h
    refine List.pairwise_iff_getElem.mpr fun i j hi hj hij e => ?_
    refine h j hj ?_
    have e1 : g l j = l[i] := by
      unfold g
      rw [List.getD_eq_getElem?_getD, List.getElem?_eq_getElem hj, e]
      rfl
    rw [e1]
    exact List.mem_take_iff_getElem.mpr ⟨i, by omega, rfl⟩
theorem minI_gt : ∀ {ns : List Int}, ns ≠ [] → (0 < minI ns ↔ ∀ x ∈ ns, 0 < x)
  | [], h => absurd rfl h
  | [x], _ => by simp [minI]
  | x :: y :: r, _ => by
    have := minI_gt (ns := y :: r) (by simp)
    rw [List.forall_mem_cons, ← this]
    show 0 < min x (minI (y :: r)) ↔ _
    omega
theorem sl1 : gSl (pL l) (some 1) none = some (pL (l.drop 1)) := slFrom (p := 1)
theorem lis_shape_spec (hl : l.length ≤ 1000) (hz : ∀ p ∈ l, Zp n p) (hn : n ≤ 24) : ∃ r, sem__law_is_shape [pL l] = some (.bl r, []) ∧ (r = true ↔ l ≠ [] ∧ Sh l) := by
  suffices h : @WC (sem__law_is_shape [pL l]) ⟨fun t us => us = [] ∧ ∃ r, t = .bl r ∧ (r = true ↔ l ≠ [] ∧ Sh l)⟩ by
    obtain ⟨t, us, e, rfl, b, rfl, k⟩ := h
    exact ⟨b, e, k⟩
  have zg : ∀ {i}, i < l.length → Zp n (g l i) := fun hi => hz _ (g_mem hi)
  unfold sem__law_is_shape F__law_is_shape
  dsimp? [Int.cast_ofNat_Int, Int.natCast_one, Int.natCast_zero, ixP0, ixP1, ixQ0, ixQ1, r_eqP, r_neP, r_eqQ, r_neQ, r_eqL, r_neL, r_inP, r_ninP, lenP, slTo, slFrom, slLast, slLastN, revP, isLP, ↓sAP, ↓sLP, qT_0, isiPL, nil1]
  refine br_d (fun c => ?_) (fun c => ?_)
  · dsimp? [Int.cast_ofNat_Int, Int.natCast_one, Int.natCast_zero, ixP0, ixP1, ixQ0, ixQ1, r_eqP, r_neP, r_eqQ, r_neQ, r_eqL, r_neL, r_inP, r_ninP, lenP, slTo, slFrom, slLast, slLastN, revP, isLP, ↓sAP, ↓sLP, qT_0]
    exact ⟨_, rfl, by simp [c]⟩
  · have l0 := List.length_pos_iff.mpr c
    dsimp? [Int.cast_ofNat_Int, Int.natCast_one, Int.natCast_zero, ixP0, ixP1, ixQ0, ixQ1, r_eqP, r_neP, r_eqQ, r_neQ, r_eqL, r_neL, r_inP, r_ninP, lenP, slTo, slFrom, slLast, slLastN, revP, isLP, ↓sAP, ↓sLP, qT_0]
    refine wf_map (I := fun i γ => ∃ x1, γ = [some (pL l), x1, none, none]) ⟨_, rfl⟩ ?_ ?_
    · rintro i γ hi ⟨x1, rfl⟩
      have zi := hz _ (List.getElem_mem hi)
      generalize l[i] = p at *
      unfold pT
      dsimp? [Int.cast_ofNat_Int, Int.natCast_one, Int.natCast_zero, ixP0, ixP1, ixQ0, ixQ1, r_eqP, r_neP, r_eqQ, r_neQ, r_eqL, r_neL, r_inP, r_ninP, lenP, slTo, slFrom, slLast, slLastN, revP, isLP, ↓sAP, ↓sLP, qT_0, isi_t_t]
      have e : [qT p.1, qT p.2] = [p.1, p.2].map qT := rfl
      rw [e]
      refine wf_map (I := fun i γ => ∃ x2, γ = [some (pL l), some (T.tup ([p.1, p.2].map qT)), x2, none]) ⟨_, rfl⟩ ?_ ?_
      · rintro j γ hj ⟨x2, rfl⟩
        have zx : Sz n [p.1, p.2][j] := by
          have : [p.1, p.2][j] ∈ [p.1, p.2] := List.getElem_mem hj
          rcases List.mem_cons.mp this with e | e
          · rw [e]; exact zi.1
          · rw [List.mem_singleton.mp e]; exact zi.2
        generalize [p.1, p.2][j] = x at *
        have hg : Int.gcd x.den x.num = 1 := by
          have := x.reduced
          rw [Int.gcd_comm]
          exact this
        have hd : ¬ ((x.den : Int) < 1) := by have := x.den_nz; omega
        have lg := lgcd_spec x.num x.den (n := n) (by simpa using zx.2) (by omega)
        rw [hg] at lg
        unfold qT
        dsimp? [Int.cast_ofNat_Int, Int.natCast_one, Int.natCast_zero, ixP0, ixP1, ixQ0, ixQ1, r_eqP, r_neP, r_eqQ, r_neQ, r_eqL, r_neL, r_inP, r_ninP, lenP, slTo, slFrom, slLast, slLastN, revP, isLP, ↓sAP, ↓sLP, qT_0, isi_t_t, isi_i_i, isi_b_i, lg, decide_eq_false hd, Int.natCast_one]
        exact ⟨_, rfl⟩
      · rintro γ ⟨x2, rfl⟩
        dsimp? [Int.cast_ofNat_Int, Int.natCast_one, Int.natCast_zero, ixP0, ixP1, ixQ0, ixQ1, r_eqP, r_neP, r_eqQ, r_neQ, r_eqL, r_neL, r_inP, r_ninP, lenP, slTo, slFrom, slLast, slLastN, revP, isLP, ↓sAP, ↓sLP, qT_0]
        exact ⟨_, rfl⟩
    · rintro γ ⟨x1, rfl⟩
      obtain ⟨co, eco, cnd, mco⟩ := lcorners_spec hl hz hn
      dsimp? [Int.cast_ofNat_Int, Int.natCast_one, Int.natCast_zero, ixP0, ixP1, ixQ0, ixQ1, r_eqP, r_neP, r_eqQ, r_neQ, r_eqL, r_neL, r_inP, r_ninP, lenP, slTo, slFrom, slLast, slLastN, revP, isLP, ↓sAP, ↓sLP, qT_0]
      refine sd_i (by omega) ?_
      dsimp? [Int.cast_ofNat_Int, Int.natCast_one, Int.natCast_zero, ixP0, ixP1, ixQ0, ixQ1, r_eqP, r_neP, r_eqQ, r_neQ, r_eqL, r_neL, r_inP, r_ninP, lenP, slTo, slFrom, slLast, slLastN, revP, isLP, ↓sAP, ↓sLP, qT_0]
      rw [Int.toNat_natCast]
      refine wco_for (fun i acc γ => γ = [some (pL l), x1, none, none] ∧ (acc = [] ↔ ∀ k, k < i → g l k ∉ l.take k)) (by rw [rngT_len, sizeLine_eq]; omega) ⟨rfl, by simp⟩ ?_ ?_
      · rintro i t acc γ hi ⟨rfl, ha⟩
        obtain ⟨hn', rfl⟩ := rngT_get hi
        rw [Int.zero_add]
        dsimp? [Int.cast_ofNat_Int, Int.natCast_one, Int.natCast_zero, ixP0, ixP1, ixQ0, ixQ1, r_eqP, r_neP, r_eqQ, r_neQ, r_eqL, r_neL, r_inP, r_ninP, lenP, slTo, slFrom, slLast, slLastN, revP, isLP, ↓sAP, ↓sLP, qT_0, ixL hn']
        refine br_d (fun d => ?_) (fun d => ?_)
        · dsimp? [Int.cast_ofNat_Int, Int.natCast_one, Int.natCast_zero, ixP0, ixP1, ixQ0, ixQ1, r_eqP, r_neP, r_eqQ, r_neQ, r_eqL, r_neL, r_inP, r_ninP, lenP, slTo, slFrom, slLast, slLastN, revP, isLP, ↓sAP, ↓sLP, qT_0]
          exact ⟨fun h => absurd h (by simp), fun h => absurd d (h i (by omega))⟩
        · dsimp? [Int.cast_ofNat_Int, Int.natCast_one, Int.natCast_zero, ixP0, ixP1, ixQ0, ixQ1, r_eqP, r_neP, r_eqQ, r_neQ, r_eqL, r_neL, r_inP, r_ninP, lenP, slTo, slFrom, slLast, slLastN, revP, isLP, ↓sAP, ↓sLP, qT_0]
          rw [ha]
          exact ⟨fun h k hk => by
            by_cases e : k = i
            · rw [e]; exact d
            · exact h k (by omega), fun h k hk => h k (by omega)⟩
      · rintro us γ' ⟨rfl, ha⟩
        rw [rngT_len, ← dup_iff] at ha
        dsimp? [Int.cast_ofNat_Int, Int.natCast_one, Int.natCast_zero, ixP0, ixP1, ixQ0, ixQ1, r_eqP, r_neP, r_eqQ, r_neQ, r_eqL, r_neL, r_inP, r_ninP, lenP, slTo, slFrom, slLast, slLastN, revP, isLP, ↓sAP, ↓sLP, qT_0]
        refine br_d (fun d => ?_) (fun d => ?_)
        · dsimp? [Int.cast_ofNat_Int, Int.natCast_one, Int.natCast_zero, ixP0, ixP1, ixQ0, ixQ1, r_eqP, r_neP, r_eqQ, r_neQ, r_eqL, r_neL, r_inP, r_ninP, lenP, slTo, slFrom, slLast, slLastN, revP, isLP, ↓sAP, ↓sLP, qT_0]
          refine ⟨_, rfl, ?_⟩
          simp only [Bool.false_eq_true, false_iff]
          rintro ⟨_, s⟩
          rw [ha.mpr s.nd] at d
          simp at d
        · have nd : l.Nodup := ha.mp (List.length_eq_zero_iff.mp (by omega))
          dsimp? [Int.cast_ofNat_Int, Int.natCast_one, Int.natCast_zero, ixP0, ixP1, ixQ0, ixQ1, r_eqP, r_neP, r_eqQ, r_neQ, r_eqL, r_neL, r_inP, r_ninP, lenP, slTo, slFrom, slLast, slLastN, revP, isLP, ↓sAP, ↓sLP, qT_0, eco]
          refine br_d (fun d2 => ?_) (fun d2 => ?_)
          · have full : ∀ x ∈ l, x ∈ co := nd_full cnd (fun x hx => ((mco x).mp hx).1) (by omega)
            have i0 : gIx (pL l) (.int 0) = some (pT (g l 0)) := ixL (k := 0) l0
            have eco' : ∀ p ∈ l, ¬ In (wo l p) p := fun p hp => ((mco p).mp (full p hp)).2
            dsimp? [Int.cast_ofNat_Int, Int.natCast_one, Int.natCast_zero, ixP0, ixP1, ixQ0, ixQ1, r_eqP, r_neP, r_eqQ, r_neQ, r_eqL, r_neL, r_inP, r_ninP, lenP, slTo, slFrom, slLast, slLastN, revP, isLP, ↓sAP, ↓sLP, qT_0, sl1]
            refine wco_fmx (fun x => if lt x (g l 0) then some (pT x) else none) (by rw [List.length_drop]; omega) (fun x hx => ?_) ?_
            · dsimp? [Int.cast_ofNat_Int, Int.natCast_one, Int.natCast_zero, ixP0, ixP1, ixQ0, ixQ1, r_eqP, r_neP, r_eqQ, r_neQ, r_eqL, r_neL, r_inP, r_ninP, lenP, slTo, slFrom, slLast, slLastN, revP, isLP, ↓sAP, ↓sLP, qT_0, i0, lsooner_spec (hz x (List.mem_of_mem_drop hx)) (zg l0) (by omega)]
              refine br_d (fun e => ?_) (fun e => ?_)
              · dsimp? [Int.cast_ofNat_Int, Int.natCast_one, Int.natCast_zero, ixP0, ixP1, ixQ0, ixQ1, r_eqP, r_neP, r_eqQ, r_neQ, r_eqL, r_neL, r_inP, r_ninP, lenP, slTo, slFrom, slLast, slLastN, revP, isLP, ↓sAP, ↓sLP, qT_0]
                exact if_pos e
              · dsimp? [Int.cast_ofNat_Int, Int.natCast_one, Int.natCast_zero, ixP0, ixP1, ixQ0, ixQ1, r_eqP, r_neP, r_eqQ, r_neQ, r_eqL, r_neL, r_inP, r_ninP, lenP, slTo, slFrom, slLast, slLastN, revP, isLP, ↓sAP, ↓sLP, qT_0]
                exact if_neg e
            · have fs : ((l.drop 1).filterMap fun x => if lt x (g l 0) then some (pT x) else none).length = 0 ↔ ∀ i, 0 < i → i < l.length → ¬ lt (g l i) (g l 0) := by
                rw [List.length_eq_zero_iff, List.filterMap_eq_nil_iff]
                constructor
                · intro k i h0 hi ht
                  have := k (g l i) (by
                    have := g_mem (l := l.drop 1) (i := i - 1) (by rw [List.length_drop]; omega)
                    rw [g_drop, show 1 + (i - 1) = i by omega] at this
                    exact this)
                  rw [if_pos ht] at this
                  cases this
                · intro k x hx
                  obtain ⟨i, hi, rfl⟩ := mem_g hx
                  rw [List.length_drop] at hi
                  rw [g_drop, if_neg (k (1 + i) (by omega) (by omega))]
              generalize (l.drop 1).filterMap (fun x => if lt x (g l 0) then some (pT x) else none) = us at *
              dsimp? [Int.cast_ofNat_Int, Int.natCast_one, Int.natCast_zero, ixP0, ixP1, ixQ0, ixQ1, r_eqP, r_neP, r_eqQ, r_neQ, r_eqL, r_neL, r_inP, r_ninP, lenP, slTo, slFrom, slLast, slLastN, revP, isLP, ↓sAP, ↓sLP, qT_0]
              refine br_d (fun e => ?_) (fun e => ?_)
              · dsimp? [Int.cast_ofNat_Int, Int.natCast_one, Int.natCast_zero, ixP0, ixP1, ixQ0, ixQ1, r_eqP, r_neP, r_eqQ, r_neQ, r_eqL, r_neL, r_inP, r_ninP, lenP, slTo, slFrom, slLast, slLastN, revP, isLP, ↓sAP, ↓sLP, qT_0]
                refine ⟨_, rfl, ?_⟩
                simp only [Bool.false_eq_true, false_iff]
                rintro ⟨_, s⟩
                have := fs.mpr s.fs
                omega
              · have fs' := fs.mp (by omega)
                dsimp? [Int.cast_ofNat_Int, Int.natCast_one, Int.natCast_zero, ixP0, ixP1, ixQ0, ixQ1, r_eqP, r_neP, r_eqQ, r_neQ, r_eqL, r_neL, r_inP, r_ninP, lenP, slTo, slFrom, slLast, slLastN, revP, isLP, ↓sAP, ↓sLP, qT_0]
                refine br_d (fun e2 => ?_) (fun e2 => ?_)
                · dsimp? [Int.cast_ofNat_Int, Int.natCast_one, Int.natCast_zero, ixP0, ixP1, ixQ0, ixQ1, r_eqP, r_neP, r_eqQ, r_neQ, r_eqL, r_neL, r_inP, r_ninP, lenP, slTo, slFrom, slLast, slLastN, revP, isLP, ↓sAP, ↓sLP, qT_0]
                  refine ⟨_, rfl, ?_⟩
                  simp only [true_iff]
                  exact ⟨c, nd, eco', fs', .inl (by omega)⟩
                · dsimp? [Int.cast_ofNat_Int, Int.natCast_one, Int.natCast_zero, ixP0, ixP1, ixQ0, ixQ1, r_eqP, r_neP, r_eqQ, r_neQ, r_eqL, r_neL, r_inP, r_ninP, lenP, slTo, slFrom, slLast, slLastN, revP, isLP, ↓sAP, ↓sLP, qT_0]
                  refine sd_i (by omega) ?_
                  dsimp? [Int.cast_ofNat_Int, Int.natCast_one, Int.natCast_zero, ixP0, ixP1, ixQ0, ixQ1, r_eqP, r_neP, r_eqQ, r_neQ, r_eqL, r_neL, r_inP, r_ninP, lenP, slTo, slFrom, slLast, slLastN, revP, isLP, ↓sAP, ↓sLP, qT_0]
                  rw [Int.toNat_natCast]
                  refine wco_rng (fun k => T.int (cr (cy l (k + l.length - 2)) (cy l (k + l.length - 1)) (cy l k)).num) (by omega) (fun k hk => ?_) ?_
                  · rw [Int.zero_add]
                    have i2 := ixC (l := l) (i := (k : Int) - 2) (by omega) (by omega)
                    have i1 := ixC (l := l) (i := (k : Int) - 1) (by omega) (by omega)
                    have i0' := ixL (l := l) hk
                    rw [show ((k : Int) - 2 + l.length).toNat = k + l.length - 2 by omega] at i2
                    rw [show ((k : Int) - 1 + l.length).toNat = k + l.length - 1 by omega] at i1
                    rw [← cy_lt hk] at i0'
                    dsimp? [Int.cast_ofNat_Int, Int.natCast_one, Int.natCast_zero, ixP0, ixP1, ixQ0, ixQ1, r_eqP, r_neP, r_eqQ, r_neQ, r_eqL, r_neL, r_inP, r_ninP, lenP, slTo, slFrom, slLast, slLastN, revP, isLP, ↓sAP, ↓sLP, qT_0, i0', i1, i2, lturn_spec (hz _ (cy_mem c (k + l.length - 2))) (hz _ (cy_mem c (k + l.length - 1))) (hz _ (cy_mem c k)) hn]
                  · have em : (List.range l.length).map (fun k => T.int (cr (cy l (k + l.length - 2)) (cy l (k + l.length - 1)) (cy l k)).num) = ((List.range l.length).map fun k => (cr (cy l (k + l.length - 2)) (cy l (k + l.length - 1)) (cy l k)).num).map T.int := by rw [List.map_map]; rfl
                    have hne : (List.range l.length).map (fun k => (cr (cy l (k + l.length - 2)) (cy l (k + l.length - 1)) (cy l k)).num) ≠ [] := by
                      intro z
                      have := congrArg List.length z
                      rw [List.length_map, List.length_range] at this
                      simp at this
                      exact c this
                    have mn := iL_min hne
                    unfold iL at mn
                    rw [em]
                    dsimp? [Int.cast_ofNat_Int, Int.natCast_one, Int.natCast_zero, ixP0, ixP1, ixQ0, ixQ1, r_eqP, r_neP, r_eqQ, r_neQ, r_eqL, r_neL, r_inP, r_ninP, lenP, slTo, slFrom, slLast, slLastN, revP, isLP, ↓sAP, ↓sLP, qT_0, mn]
                    refine ⟨_, rfl, ?_⟩
                    rw [decide_eq_true_iff, minI_gt hne]
                    constructor
                    · intro k
                      refine ⟨c, nd, eco', fs', .inr fun i hi => ?_⟩
                      have := k _ (List.mem_map.mpr ⟨i, List.mem_range.mpr hi, rfl⟩)
                      exact numpos.mp this
                    · rintro ⟨_, s⟩ x hx
                      obtain ⟨i, hi, rfl⟩ := List.mem_map.mp hx
                      have hi := List.mem_range.mp hi
                      exact numpos.mpr ((s.tn.resolve_left (by omega)) i hi)
          · dsimp? [Int.cast_ofNat_Int, Int.natCast_one, Int.natCast_zero, ixP0, ixP1, ixQ0, ixQ1, r_eqP, r_neP, r_eqQ, r_neQ, r_eqL, r_neL, r_inP, r_ninP, lenP, slTo, slFrom, slLast, slLastN, revP, isLP, ↓sAP, ↓sLP, qT_0]
            refine ⟨_, rfl, ?_⟩
            simp only [Bool.false_eq_true, false_iff]
            rintro ⟨_, s⟩
            have a1 := nd_len cnd (m := l) fun x hx => ((mco x).mp hx).1
            have a2 := nd_len nd (m := co) fun x hx => (mco x).mpr ⟨hx, s.co x hx⟩
            omega
end
end LawS

namespace LawS
open Tw L2 LawP Hl
noncomputable def F__law_same (self : Sem') : Fs :=
  (sSeq (sIf (tTru (eUn (gIsi "dict") (eVar 0))) (sSeq (sIf (tOrT (tNotT (tTru (eUn (gIsi "dict") (eVar 1)))) (tOf (eBin gNe (eCall gLen (aCons (eVar 0) aNil)) (eCall gLen (aCons (eVar 1) aNil))))) (sRet (eLit (.bl false))) sNx) (sSeq (sFor (iSeq (eVar 0)) (tgN 2) (sSeq (sIf (tOrT (tOf (eBin gNotIn (eVar 2) (eVar 1))) (tNotT (tTru (eOwn self [] (aCons (eBin gIx (eVar 0) (eVar 2)) (aCons (eBin gIx (eVar 1) (eVar 2)) aNil)))))) (sRet (eLit (.bl false))) sNx) (sKill 2 sNx))) (sRet (eLit (.bl true))))) sNx) (sSeq (sIf (tOrT (tTru (eUn (gIsi "list") (eVar 0))) (tTru (eUn (gIsi "tuple") (eVar 0)))) (sSeq (sIf (tOrT (tOf (eBin gNe (eUn (gIsi "list") (eVar 0)) (eUn (gIsi "list") (eVar 1)))) (tOf (eBin gNe (eUn (gIsi "tuple") (eVar 0)) (eUn (gIsi "tuple") (eVar 1))))) (sRet (eLit (.bl false))) sNx) (sRet (eAnd (eBin gEq (eCall gLen (aCons (eVar 0) aNil)) (eCall gLen (aCons (eVar 1) aNil))) (eCall gAll (aCons (eComp [3] (iR1 (aCons (eCall gLen (aCons (eVar 0) aNil)) aNil)) (tgN 3) tYesT (eOwn self [] (aCons (eBin gIx (eVar 0) (eVar 3)) (aCons (eBin gIx (eVar 1) (eVar 3)) aNil)))) aNil))))) sNx) (sSeq (sIf (tOrT (tOf (eBin gIs (eVar 0) (eLit .non))) (tOf (eBin gIs (eVar 1) (eLit .non)))) (sRet (eAnd (eBin gIs (eVar 0) (eLit .non)) (eBin gIs (eVar 1) (eLit .non)))) sNx) (sSeq (sIf (tOrT (tTru (eUn (gIsi "bool") (eVar 0))) (tTru (eUn (gIsi "bool") (eVar 1)))) (sRet (eAnd (eUn (gIsi "bool") (eVar 0)) (eAnd (eUn (gIsi "bool") (eVar 1)) (eBin gEq (eVar 0) (eVar 1))))) sNx) (sSeq (sIf (tTru (eUn (gIsi "str") (eVar 0))) (sRet (eAnd (eUn (gIsi "str") (eVar 1)) (eBin gEq (eVar 0) (eVar 1)))) sNx) (sRet (eAnd (eUn (gIsi "int") (eVar 1)) (eBin gEq (eVar 0) (eVar 1)))))))))
noncomputable def semR__law_same : Nat → Sem'
  | 0 => fun _ => none
  | n + 1 => semOf 4 [] (F__law_same (semR__law_same n))
theorem isi_bb {b : Bool} : gIsi "bool" (.bl b) = some (.bl true) := isi_b_b
theorem eqT_bb {b : Bool} : gEq (.bl b) (.bl b) = some (.bl true) := by cases b <;> rfl
theorem same3_bl {n : Nat} {a b : Bool} (h : a = b) : semR__law_same (n + 1) [.bl a, .bl b] = some (.bl true, []) := by
  subst h
  refine wc_eq ?_
  unfold semR__law_same F__law_same
  dsimp? [Int.cast_ofNat_Int, Int.natCast_one, Int.natCast_zero, ixP0, ixP1, ixQ0, ixQ1, r_eqP, r_neP, r_eqQ, r_neQ, r_eqL, r_neL, r_inP, r_ninP, lenP, slTo, slFrom, slLast, slLastN, revP, isLP, ↓sAP, ↓sLP, qT_0, isi_d_b, isi_l_b, isi_t_b, isi_b_b, eqT_bb]
theorem same3_int {n : Nat} {i : Int} : semR__law_same (n + 1) [.int i, .int i] = some (.bl true, []) := by
  refine wc_eq ?_
  unfold semR__law_same F__law_same
  dsimp? [Int.cast_ofNat_Int, Int.natCast_one, Int.natCast_zero, ixP0, ixP1, ixQ0, ixQ1, r_eqP, r_neP, r_eqQ, r_neQ, r_eqL, r_neL, r_inP, r_ninP, lenP, slTo, slFrom, slLast, slLastN, revP, isLP, ↓sAP, ↓sLP, qT_0, isi_d_i, isi_l_i, isi_t_i, isi_b_i, isi_s_i, isi_i_i]
theorem same3_qT {n : Nat} {x : Rat} : semR__law_same (n + 2) [qT x, qT x] = some (.bl true, []) := by
  refine wc_eq ?_
  unfold semR__law_same F__law_same qT
  dsimp? [Int.cast_ofNat_Int, Int.natCast_one, Int.natCast_zero, ixP0, ixP1, ixQ0, ixQ1, r_eqP, r_neP, r_eqQ, r_neQ, r_eqL, r_neL, r_inP, r_ninP, lenP, slTo, slFrom, slLast, slLastN, revP, isLP, ↓sAP, ↓sLP, qT_0, isi_d_t, isi_l_t, isi_t_t, r_neBB, bne_self_eq_false]
  refine wco_rng (fun _ => T.bl true) (by decide) (fun k hk => ?_) ?_
  · rw [Int.zero_add]
    have hk' : k = 0 ∨ k = 1 := by omega
    rcases hk' with rfl | rfl
    · dsimp? [Int.cast_ofNat_Int, Int.natCast_one, Int.natCast_zero, ixP0, ixP1, ixQ0, ixQ1, r_eqP, r_neP, r_eqQ, r_neQ, r_eqL, r_neL, r_inP, r_ninP, lenP, slTo, slFrom, slLast, slLastN, revP, isLP, ↓sAP, ↓sLP, qT_0, same3_int]
    · dsimp? [Int.cast_ofNat_Int, Int.natCast_one, Int.natCast_zero, ixP0, ixP1, ixQ0, ixQ1, r_eqP, r_neP, r_eqQ, r_neQ, r_eqL, r_neL, r_inP, r_ninP, lenP, slTo, slFrom, slLast, slLastN, revP, isLP, ↓sAP, ↓sLP, qT_0, same3_int]
  · dsimp? [Int.cast_ofNat_Int, Int.natCast_one, Int.natCast_zero, ixP0, ixP1, ixQ0, ixQ1, r_eqP, r_neP, r_eqQ, r_neQ, r_eqL, r_neL, r_inP, r_ninP, lenP, slTo, slFrom, slLast, slLastN, revP, isLP, ↓sAP, ↓sLP, qT_0, gAll_tt]
end LawS


/-! widths: plain mathematics -/
namespace LawS
open Tw L2 LawP Hl
def mx : List P → P → Rat
  | [], _ => 0
  | [x], d => al x d
  | x :: y :: l, d => if al x d ≤ mx (y :: l) d then mx (y :: l) d else al x d
theorem mx_ok : ∀ {l : List P} {d : P}, l ≠ [] → Mx l d (mx l d)
  | [], _, h => absurd rfl h
  | [x], d, _ => ⟨fun y hy => by rw [List.mem_singleton.mp hy]; exact Rat.le_refl, x, by simp, rfl⟩
  | x :: y :: l, d, _ => by
    obtain ⟨h1, z, hz, e⟩ := mx_ok (l := y :: l) (d := d) (by simp)
    have em : mx (x :: y :: l) d = if al x d ≤ mx (y :: l) d then mx (y :: l) d else al x d := by rw [mx]
    rw [em]
    split
    · rename_i c
      refine ⟨fun w hw => ?_, z, List.mem_cons_of_mem _ hz, e⟩
      rcases List.mem_cons.mp hw with rfl | hw
      · exact c
      · exact h1 w hw
    · rename_i c
      refine ⟨fun w hw => ?_, x, by simp, rfl⟩
      rcases List.mem_cons.mp hw with rfl | hw
      · exact Rat.le_refl
      · have := h1 w hw; grind
theorem Mx.eq {l : List P} {d : P} {m : Rat} (h : Mx l d m) : m = mx l d := by
  obtain ⟨x, hx, _⟩ := h.2
  have k := mx_ok (l := l) (d := d) (fun e => by rw [e] at hx; cases hx)
  exact h.uniq k k.1 h.1
def ng (d : P) : P := (-d.1, -d.2)
def nn (d : P) : Rat := d.1 * d.1 + d.2 * d.2
def W (l : List P) (d : P) : Rat := mx l d + mx l (ng d)
theorem al_ng (x d : P) : al x (ng d) = -al x d := by unfold al ng; grind
theorem al_sub (x y d : P) : al (vc x y) d = al y d - al x d := by unfold al vc; grind
theorem ng_ng (d : P) : ng (ng d) = d := by unfold ng; simp
theorem W_ng (l : List P) (d : P) : W l (ng d) = W l d := by unfold W; rw [ng_ng]; grind
theorem W_of {l : List P} {p q d : P} (hp : p ∈ l) (hq : q ∈ l) (h1 : ∀ x ∈ l, al x d ≤ al p d) (h2 : ∀ x ∈ l, al q d ≤ al x d) : W l d = al p d - al q d := by
  have a : al p d = mx l d := Mx.eq ⟨h1, p, hp, rfl⟩
  have b : al q (ng d) = mx l (ng d) := Mx.eq ⟨fun x hx => by rw [al_ng, al_ng]; have := h2 x hx; grind, q, hq, rfl⟩
  unfold W
  rw [← a, ← b, al_ng]
  grind
theorem W_ex {l : List P} (hn : l ≠ []) (d : P) : ∃ p q, p ∈ l ∧ q ∈ l ∧ (∀ x ∈ l, al x d ≤ al p d) ∧ (∀ x ∈ l, al q d ≤ al x d) ∧ W l d = al p d - al q d := by
  obtain ⟨h1, p, hp, e1⟩ := mx_ok (l := l) (d := d) hn
  obtain ⟨h2, q, hq, e2⟩ := mx_ok (l := l) (d := ng d) hn
  have k1 : ∀ x ∈ l, al x d ≤ al p d := fun x hx => by rw [← e1]; exact h1 x hx
  have k2 : ∀ x ∈ l, al q d ≤ al x d := fun x hx => by
    have := h2 x hx
    rw [e2, al_ng, al_ng] at this
    grind
  exact ⟨p, q, hp, hq, k1, k2, W_of hp hq k1 k2⟩
def sc (c : Rat) (d : P) : P := (c * d.1, c * d.2)
theorem al_sc (x d : P) (c : Rat) : al x (sc c d) = c * al x d := by unfold al sc; grind
theorem nn_sc (d : P) (c : Rat) : nn (sc c d) = c * c * nn d := by unfold nn sc; grind
theorem W_sc {l : List P} (hn : l ≠ []) (d : P) (c : Rat) : W l (sc c d) * W l (sc c d) = c * c * (W l d * W l d) := by
  obtain ⟨p, q, hp, hq, k1, k2, e⟩ := W_ex hn d
  by_cases hc : 0 ≤ c
  · have e2 : W l (sc c d) = c * al p d - c * al q d := by
      have := W_of (l := l) (p := p) (q := q) (d := sc c d) hp hq (fun x hx => by
        rw [al_sc, al_sc]
        have := Rat.mul_nonneg hc (show 0 ≤ al p d - al x d by have := k1 x hx; grind)
        grind) (fun x hx => by
        rw [al_sc, al_sc]
        have := Rat.mul_nonneg hc (show 0 ≤ al x d - al q d by have := k2 x hx; grind)
        grind)
      rw [this, al_sc, al_sc]
    rw [e, e2]
    grind
  · have hc : 0 ≤ -c := by grind
    have e2 : W l (sc c d) = c * al q d - c * al p d := by
      have := W_of (l := l) (p := q) (q := p) (d := sc c d) hq hp (fun x hx => by
        rw [al_sc, al_sc]
        have := Rat.mul_nonneg hc (show 0 ≤ al x d - al q d by have := k2 x hx; grind)
        grind) (fun x hx => by
        rw [al_sc, al_sc]
        have := Rat.mul_nonneg hc (show 0 ≤ al p d - al x d by have := k1 x hx; grind)
        grind)
      rw [this, al_sc, al_sc]
    rw [e, e2]
    grind
/-- the direction at right angles to a side -/
def nrm (e : P × P) : P := (e.2.2 - e.1.2, e.1.1 - e.2.1)
theorem sq_nn (x : Rat) : 0 ≤ x * x := by
  by_cases h : 0 ≤ x
  · exact Rat.mul_nonneg h h
  · have := Rat.mul_nonneg (show 0 ≤ -x by grind) (show 0 ≤ -x by grind)
    grind
theorem nn_pos {d : P} (h : d ≠ (0, 0)) : 0 < nn d := by
  unfold nn
  have a := sq_nn d.1
  have b := sq_nn d.2
  by_cases c : d.1 = 0
  · by_cases c2 : d.2 = 0
    · exact absurd (Prod.ext c c2) h
    · rcases (show d.2 < 0 ∨ 0 < d.2 by grind) with k | k
      · have := Rat.mul_pos (show 0 < -d.2 by grind) (show 0 < -d.2 by grind)
        grind
      · have := Rat.mul_pos k k
        grind
  · rcases (show d.1 < 0 ∨ 0 < d.1 by grind) with k | k
    · have := Rat.mul_pos (show 0 < -d.1 by grind) (show 0 < -d.1 by grind)
      grind
    · have := Rat.mul_pos k k
      grind
section
variable {S h : List P}
theorem cone (a p b x n : P) : cr a p b * al (vc p x) n = cr a p x * al (vc p b) n + cr p b x * al (vc p a) n := by unfold cr al vc; grind
theorem tight (H : Hu S h) (h3 : 3 ≤ h.length) {p x n : P} (hp : p ∈ h) (hx : x ∈ h) (hne : x ≠ p) (h1 : ∀ y ∈ h, al y n ≤ al p n) (h2 : al x n = al p n) : ∃ k, al (vc (cy h k) (cy h (k + 1))) n = 0 := by
  obtain ⟨i, hi, rfl⟩ := mem_g hp
  have t := H.tn h3 (i + h.length - 1)
  rw [show i + h.length - 1 + 1 = i + h.length by omega, show i + h.length - 1 + 2 = i + 1 + h.length by omega, cy_per, cy_per, cy_lt hi] at t
  have s1 := H.sp (i + h.length - 1) x (H.sub x hx)
  rw [show i + h.length - 1 + 1 = i + h.length by omega, cy_per, cy_lt hi] at s1
  have s2 := H.sp i x (H.sub x hx)
  rw [cy_lt hi] at s2
  have c := cone (cy h (i + h.length - 1)) (g h i) (cy h (i + 1)) x n
  rw [al_sub, h2] at c
  have b1 : al (vc (g h i) (cy h (i + 1))) n ≤ 0 := by
    rw [al_sub]
    have := h1 _ (cy_mem H.ne (i + 1))
    grind
  have b2 : al (vc (g h i) (cy h (i + h.length - 1))) n ≤ 0 := by
    rw [al_sub]
    have := h1 _ (cy_mem H.ne (i + h.length - 1))
    grind
  have m1 := Rat.mul_nonneg s1 (show 0 ≤ -al (vc (g h i) (cy h (i + 1))) n by grind)
  have m2 := Rat.mul_nonneg s2 (show 0 ≤ -al (vc (g h i) (cy h (i + h.length - 1))) n by grind)
  have z1 : cr (cy h (i + h.length - 1)) (g h i) x * al (vc (g h i) (cy h (i + 1))) n = 0 := by grind
  have z2 : cr (g h i) (cy h (i + 1)) x * al (vc (g h i) (cy h (i + h.length - 1))) n = 0 := by grind
  rcases Rat.mul_eq_zero.mp z1 with z | z
  · rcases Rat.mul_eq_zero.mp z2 with w | w
    · exact absurd (two_z (by grind) z w) hne
    · refine ⟨i + h.length - 1, ?_⟩
      rw [show i + h.length - 1 + 1 = i + h.length by omega, cy_per, cy_lt hi]
      rw [al_sub] at w ⊢
      grind
  · exact ⟨i, by rw [cy_lt hi]; exact z⟩
theorem least_g {d e : P} : ∀ {G : List P}, (∃ w ∈ G, al w e < 0) → ∃ w ∈ G, al w e < 0 ∧ ∀ u ∈ G, al u e < 0 → al w d * -al u e ≤ al u d * -al w e
  | [], h => by obtain ⟨w, hw, _⟩ := h; cases hw
  | x :: G, h => by
    by_cases c : ∃ w ∈ G, al w e < 0
    · obtain ⟨w, hw, h1, h2⟩ := least_g (d := d) c
      by_cases cx' : al x e < 0 ∧ al x d * -al w e ≤ al w d * -al x e
      · refine ⟨x, by simp, cx'.1, fun u hu hue => ?_⟩
        rcases List.mem_cons.mp hu with rfl | hu
        · exact Rat.le_refl
        · have a := h2 u hu hue
          have p1 : 0 < -al w e := by grind
          have p2 : 0 < -al u e := by grind
          have p3 : 0 < -al x e := by grind
          have k1 := Rat.mul_nonneg (Rat.le_of_lt p3) (show 0 ≤ al u d * -al w e - al w d * -al u e by grind)
          have k2 := Rat.mul_nonneg (Rat.le_of_lt p2) (show 0 ≤ al w d * -al x e - al x d * -al w e by grind)
          have : 0 ≤ (al u d * -al x e - al x d * -al u e) * -al w e := by grind
          have := nn_of_mul p1 this
          grind
      · refine ⟨w, List.mem_cons_of_mem _ hw, h1, fun u hu hue => ?_⟩
        rcases List.mem_cons.mp hu with rfl | hu
        · have : ¬ (al u d * -al w e ≤ al w d * -al u e) := fun k => cx' ⟨hue, k⟩
          grind
        · exact h2 u hu hue
    · obtain ⟨w, hw, hwe⟩ := h
      rcases List.mem_cons.mp hw with rfl | hw
      · refine ⟨w, by simp, hwe, fun u hu hue => ?_⟩
        rcases List.mem_cons.mp hu with rfl | hu
        · exact Rat.le_refl
        · exact absurd ⟨u, hu, hue⟩ c
      · exact absurd ⟨w, hw, hwe⟩ c
theorem perp {w n : P} (hw : w ≠ (0, 0)) (h : al w n = 0) : ∃ c, n = sc c (w.2, -w.1) := by
  have hp := nn_pos hw
  refine ⟨(n.1 * w.2 - n.2 * w.1) / nn w, ?_⟩
  have e : (n.1 * w.2 - n.2 * w.1) / nn w * nn w = n.1 * w.2 - n.2 * w.1 := by grind
  generalize (n.1 * w.2 - n.2 * w.1) / nn w = c at e
  unfold al at h
  have z : nn w ≠ 0 := by grind
  have k1 : nn w * (n.1 - c * w.2) = 0 := by unfold nn at *; grind
  have k2 : nn w * (n.2 - c * -w.1) = 0 := by unfold nn at *; grind
  have j1 := (Rat.mul_eq_zero.mp k1).resolve_left z
  have j2 := (Rat.mul_eq_zero.mp k2).resolve_left z
  unfold sc
  apply Prod.ext <;> grind
theorem par_z {u w e : P} (he : e ≠ (0, 0)) (h1 : al u e = 0) (h2 : al w e = 0) : cx u w = 0 := by
  have hp := nn_pos he
  have : nn e * cx u w = 0 := by unfold nn cx al at *; grind
  exact (Rat.mul_eq_zero.mp this).resolve_left (by grind)
theorem calip (H : Hu S h) (h3 : 3 ≤ h.length) {M : Rat} (hM : 0 ≤ M) (hs : ∀ k, M * nn (nrm (cy h k, cy h (k + 1))) ≤ W h (nrm (cy h k, cy h (k + 1))) * W h (nrm (cy h k, cy h (k + 1)))) {d : P} (hd : d ≠ (0, 0)) : M * nn d ≤ W h d * W h d := by
  obtain ⟨p, q, hp, hq, k1, k2, eW⟩ := W_ex H.ne d
  obtain ⟨e, e1, e2, e3⟩ : ∃ e : P, al p e - al q e ≤ 0 ∧ al e d = 0 ∧ nn e = nn d := by
    by_cases c : al p (-d.2, d.1) - al q (-d.2, d.1) ≤ 0
    · exact ⟨_, c, by unfold al; grind, by unfold nn; grind⟩
    · refine ⟨(d.2, -d.1), ?_, by unfold al; grind, by unfold nn; grind⟩
      unfold al at *
      grind
  have he : e ≠ (0, 0) := fun z => by
    have := nn_pos hd
    rw [← e3, z] at this
    unfold nn at this
    grind
  let G : List P := h.map (fun x => vc x p) ++ h.map (fun x => vc q x)
  have gd : ∀ u ∈ G, 0 ≤ al u d := fun u hu => by
    rcases List.mem_append.mp hu with hu | hu
    · obtain ⟨x, hx, rfl⟩ := List.mem_map.mp hu
      rw [al_sub]
      have := k1 x hx
      grind
    · obtain ⟨x, hx, rfl⟩ := List.mem_map.mp hu
      rw [al_sub]
      have := k2 x hx
      grind
  by_cases cG : ∃ w ∈ G, al w e < 0
  · obtain ⟨w, hw, w1, w2⟩ := least_g (d := d) cG
    have wp : 0 < -al w e := by grind
    have et : al w d / -al w e * -al w e = al w d := by grind
    generalize al w d / -al w e = t at et
    have t0 : 0 ≤ t := nn_of_mul wp (by rw [et]; exact gd w hw)
    have an : ∀ x : P, al x (d.1 + t * e.1, d.2 + t * e.2) = al x d + t * al x e := fun x => by unfold al; grind
    have nnn : nn (d.1 + t * e.1, d.2 + t * e.2) = nn d + t * t * nn d := by
      rw [← e3]
      have : nn e = nn d := e3
      unfold nn al at *
      grind
    generalize hn : ((d.1 + t * e.1, d.2 + t * e.2) : P) = n at an nnn
    have ge : ∀ u ∈ G, 0 ≤ al u n := fun u hu => by
      rw [an]
      by_cases c : al u e < 0
      · have a := w2 u hu c
        have : 0 ≤ (al u d + t * al u e) * -al w e := by
          have : t * -al w e * al u e = al w d * al u e := by rw [et]
          grind
        exact nn_of_mul wp this
      · have a := gd u hu
        have b := Rat.mul_nonneg t0 (show 0 ≤ al u e by grind)
        grind
    have wn : al w n = 0 := by rw [an]; grind
    have k1' : ∀ x ∈ h, al x n ≤ al p n := fun x hx => by
      have := ge (vc x p) (List.mem_append_left _ (List.mem_map.mpr ⟨x, hx, rfl⟩))
      rw [al_sub] at this
      grind
    have k2' : ∀ x ∈ h, al q n ≤ al x n := fun x hx => by
      have := ge (vc q x) (List.mem_append_right _ (List.mem_map.mpr ⟨x, hx, rfl⟩))
      rw [al_sub] at this
      grind
    have eWn := W_of hp hq k1' k2'
    have tk : ∃ k, al (vc (cy h k) (cy h (k + 1))) n = 0 := by
      rcases List.mem_append.mp hw with hw | hw
      · obtain ⟨x, hx, rfl⟩ := List.mem_map.mp hw
        rw [al_sub] at wn w1
        exact tight H h3 hp hx (fun z => by rw [z] at w1; grind) k1' (by grind)
      · obtain ⟨x, hx, rfl⟩ := List.mem_map.mp hw
        rw [al_sub] at wn w1
        obtain ⟨k, hk⟩ := tight H h3 (n := ng n) hq hx (fun z => by rw [z] at w1; grind) (fun y hy => by rw [al_ng, al_ng]; have := k2' y hy; grind) (by rw [al_ng, al_ng]; grind)
        rw [al_ng] at hk
        exact ⟨k, by grind⟩
    obtain ⟨k, hk⟩ := tk
    have hsd : vc (cy h k) (cy h (k + 1)) ≠ (0, 0) := fun z => by
      have t := H.tn h3 k
      have : cy h (k + 1) = cy h k := by
        have z1 := congrArg Prod.fst z
        have z2 := congrArg Prod.snd z
        unfold vc at z1 z2
        apply Prod.ext <;> grind
      rw [this, cr_aab] at t
      exact absurd t (by decide)
    obtain ⟨c, hc⟩ := perp hsd hk
    have enr : ((vc (cy h k) (cy h (k + 1))).2, -(vc (cy h k) (cy h (k + 1))).1) = nrm (cy h k, cy h (k + 1)) := by
      unfold vc nrm
      apply Prod.ext <;> grind
    rw [enr] at hc
    have f1 : M * nn n ≤ W h n * W h n := by
      rw [hc, W_sc H.ne, nn_sc]
      have := Rat.mul_nonneg (sq_nn c) (show 0 ≤ W h (nrm (cy h k, cy h (k + 1))) * W h (nrm (cy h k, cy h (k + 1))) - M * nn (nrm (cy h k, cy h (k + 1))) by have := hs k; grind)
      grind
    have f2 : W h n * W h n ≤ W h d * W h d := by
      rw [eWn, eW]
      have a0 : 0 ≤ al p n - al q n := by have := k1' q hq; grind
      have a1 : al p n - al q n ≤ al p d - al q d := by
        rw [an, an]
        have := Rat.mul_nonneg t0 (show 0 ≤ -(al p e - al q e) by grind)
        grind
      have m := Rat.mul_nonneg a0 (show 0 ≤ (al p d - al q d) - (al p n - al q n) by grind)
      have m2 := Rat.mul_nonneg (show 0 ≤ al p d - al q d by grind) (show 0 ≤ (al p d - al q d) - (al p n - al q n) by grind)
      grind
    have f3 : M * nn d ≤ M * nn n := by
      rw [nnn]
      have := Rat.mul_nonneg hM (Rat.mul_nonneg (sq_nn t) (Rat.le_of_lt (nn_pos hd)))
      grind
    grind
  · exfalso
    have ge : ∀ u ∈ G, 0 ≤ al u e := fun u hu => by
      by_cases c : al u e < 0
      · exact absurd ⟨u, hu, c⟩ cG
      · grind
    have all : ∀ x ∈ h, al x e = al p e := fun x hx => by
      have a := ge (vc x p) (List.mem_append_left _ (List.mem_map.mpr ⟨x, hx, rfl⟩))
      have b := ge (vc q x) (List.mem_append_right _ (List.mem_map.mpr ⟨x, hx, rfl⟩))
      rw [al_sub] at a b
      grind
    have t := H.tn h3 0
    rw [cr_vc, par_z he (by rw [al_sub, all _ (cy_mem H.ne _), all _ (cy_mem H.ne _)]; grind) (by rw [al_sub, all _ (cy_mem H.ne _), all _ (cy_mem H.ne _)]; grind)] at t
    exact absurd t (by decide)
end
end LawS

namespace LawS
open Tw L2 LawP Hl
noncomputable def F_added : Fs :=
  (sRet (eOwn sem_hull [] (aCons (eComp2 [2, 3, 4, 5] [4, 5] (iAny (eVar 0)) (tgSeq 2 (tgCons (tgN 2) (tgCons (tgN 3) tgNil))) tYesT (iAny (eVar 1)) (tgSeq 2 (tgCons (tgN 4) (tgCons (tgN 5) tgNil))) tYesT (eTup (aCons (eOwn sem_plus [] (aCons (eVar 2) (aCons (eVar 4) aNil))) (aCons (eOwn sem_plus [] (aCons (eVar 3) (aCons (eVar 5) aNil))) aNil)))) aNil)))
noncomputable def sem_added : Sem' := semOf 6 [] F_added
noncomputable def F_turned_round : Fs :=
  (sRet (eOwn sem_hull [] (aCons (eComp [1, 2] (iAny (eVar 0)) (tgSeq 2 (tgCons (tgN 1) (tgCons (tgN 2) tgNil))) tYesT (eTup (aCons (eOwn sem_negative [] (aCons (eVar 1) aNil)) (aCons (eOwn sem_negative [] (aCons (eVar 2) aNil)) aNil)))) aNil)))
noncomputable def sem_turned_round : Sem' := semOf 3 [] F_turned_round
noncomputable def F_squared_width : Fs :=
  (sSeq (sAsgT (tgSeq 2 (tgCons (tgN 2) (tgCons (tgN 3) tgNil))) (eVar 1)) (sSeq (sAsg 4 (eOwn sem_plus [] (aCons (eOwn sem_reach [] (aCons (eVar 0) (aCons (eVar 1) aNil))) (aCons (eOwn sem_reach [] (aCons (eVar 0) (aCons (eTup (aCons (eOwn sem_negative [] (aCons (eVar 2) aNil)) (aCons (eOwn sem_negative [] (aCons (eVar 3) aNil)) aNil))) aNil))) aNil)))) (sRet (eOwn sem_over [] (aCons (eOwn sem_times [] (aCons (eVar 4) (aCons (eVar 4) aNil))) (aCons (eOwn sem_plus [] (aCons (eOwn sem_times [] (aCons (eVar 2) (aCons (eVar 2) aNil))) (aCons (eOwn sem_times [] (aCons (eVar 3) (aCons (eVar 3) aNil))) aNil))) aNil))))))
noncomputable def sem_squared_width : Sem' := semOf 5 [] F_squared_width
noncomputable def F_least_width : Fs :=
  (sSeq (sAsg 1 (eLit .non)) (sSeq (sFor (iAny (eOwn sem_sides [] (aCons (eVar 0) aNil))) (tgSeq 2 (tgCons (tgN 2) (tgCons (tgN 3) tgNil))) (sSeq (sAsg 4 (eTup (aCons (eOwn sem_minus [] (aCons (eBin gIx (eVar 3) (eLit (.int 1))) (aCons (eBin gIx (eVar 2) (eLit (.int 1))) aNil))) (aCons (eOwn sem_minus [] (aCons (eBin gIx (eVar 2) (eLit (.int 0))) (aCons (eBin gIx (eVar 3) (eLit (.int 0))) aNil))) aNil)))) (sSeq (sAsg 5 (eOwn sem_squared_width [] (aCons (eVar 0) (aCons (eVar 4) aNil)))) (sSeq (sIf (tOrT (tOf (eBin gIs (eVar 1) (eLit .non))) (tTru (eOwn sem_less [] (aCons (eVar 5) (aCons (eBin gIx (eVar 1) (eLit (.int 0))) aNil))))) (sSeq (sAsg 1 (eTup (aCons (eVar 5) (aCons (eVar 4) aNil)))) sNx) sNx) (sKill 2 (sKill 3 (sKill 4 (sKill 5 sNx)))))))) (sRet (eVar 1))))
noncomputable def sem_least_width : Sem' := semOf 6 [] F_least_width
noncomputable def F__law_squared : Fs :=
  (sSeq (sAsg 2 (eTup (aCons (eTup (aCons (eUn gNeg (eBin gIx (eBin gIx (eVar 1) (eLit (.int 0))) (eLit (.int 0)))) (aCons (eBin gIx (eBin gIx (eVar 1) (eLit (.int 0))) (eLit (.int 1))) aNil))) (aCons (eTup (aCons (eUn gNeg (eBin gIx (eBin gIx (eVar 1) (eLit (.int 1))) (eLit (.int 0)))) (aCons (eBin gIx (eBin gIx (eVar 1) (eLit (.int 1))) (eLit (.int 1))) aNil))) aNil)))) (sSeq (sAsg 3 (eOwn sem__law_plus [] (aCons (eOwn sem__law_reach [] (aCons (eVar 0) (aCons (eVar 1) aNil))) (aCons (eOwn sem__law_reach [] (aCons (eVar 0) (aCons (eVar 2) aNil))) aNil)))) (sSeq (sAsg 4 (eOwn sem__law_plus [] (aCons (eOwn sem__law_times [] (aCons (eBin gIx (eVar 1) (eLit (.int 0))) (aCons (eBin gIx (eVar 1) (eLit (.int 0))) aNil))) (aCons (eOwn sem__law_times [] (aCons (eBin gIx (eVar 1) (eLit (.int 1))) (aCons (eBin gIx (eVar 1) (eLit (.int 1))) aNil))) aNil)))) (sRet (eOwn sem__law_over [] (aCons (eOwn sem__law_times [] (aCons (eVar 3) (aCons (eVar 3) aNil))) (aCons (eVar 4) aNil)))))))
noncomputable def sem__law_squared : Sem' := semOf 5 [] F__law_squared
/-! two fors in one comprehension -/
def WCo2 (own own1 : List Nat) (tg : T → En → Option En) (test : Tx) (src1 : Ix) (tg1 : T → En → Option En) (test1 : Tx) (elt : Ex) (ts : List T) (γ : En) [K : KA] : Prop := ∃ us γ', compL2 own own1 tg test src1 tg1 test1 elt ts γ [] = some (us, γ') ∧ K.ap us γ'
section
variable {own own1 : List Nat} {src src1 : Ix} {tg tg1 : T → En → Option En} {test test1 : Tx} {elt : Ex} {γ : En} {Ke : KE} {Ka : KA}
theorem we_comp2 : @WE (eComp2 own own1 src tg test src1 tg1 test1 elt) γ Ke = @WI src γ ⟨fun ts γ' => @WCo2 own own1 tg test src1 tg1 test1 elt ts γ' ⟨fun us γ2 => Ke.ap (.lst us) γ2⟩⟩ := by
  unfold WE WI WCo2 eComp2
  refine propext ⟨?_, ?_⟩
  · rintro ⟨t, γ', h, q⟩
    obtain ⟨⟨x, γ1⟩, h1, h⟩ := Option.bind_eq_some_iff.mp h
    obtain ⟨⟨us, γ2⟩, h3, h⟩ := Option.map_eq_some_iff.mp h
    cases h
    exact ⟨x, γ1, h1, us, _, h3, q⟩
  · rintro ⟨x, γ1, h1, us, γ2, h3, q⟩
    exact ⟨_, γ2, by rw [h1, Option.bind_some]; dsimp only; rw [h3]; rfl, q⟩
theorem compL2_map {α β : Type} {ys : List β} {e : α → T} {e' : β → T} (f : α → β → T) : ∀ {xs : List α} {acc : List T}, acc.length + xs.length * ys.length ≤ PySem.sizeLine →
    (∀ x ∈ xs, @WG tg (e x) (wipeE γ own) ⟨fun γ1 => @WT test γ1 ⟨fun b γ2 => b = true ∧ @WI src1 γ2 ⟨fun ts γ3 => ts = ys.map e' ∧ backE γ γ3 own = γ ∧ ∀ y ∈ ys, @WG tg1 (e' y) (wipeE γ3 own1) ⟨fun γ4 => @WT test1 γ4 ⟨fun b γ5 => b = true ∧ @WE elt γ5 ⟨fun u γ6 => u = f x y ∧ backE γ3 γ6 own1 = γ3⟩⟩⟩⟩⟩⟩) →
    compL2 own own1 tg test src1 tg1 test1 elt (xs.map e) γ acc = some (acc ++ xs.flatMap fun x => ys.map (f x), γ)
  | [], acc, _, _ => by simp [compL2]
  | x :: xs, acc, hl, hs => by
    obtain ⟨γ1, h1, b, γ2, h2, rfl, ts, γ3, h3, rfl, h4, h5⟩ := hs x (by simp)
    have hl' : acc.length + xs.length * ys.length + ys.length ≤ PySem.sizeLine := by
      have : (x :: xs).length * ys.length = xs.length * ys.length + ys.length := by rw [List.length_cons, Nat.add_mul, Nat.one_mul]
      omega
    obtain ⟨us, γ', e1, e2, e3⟩ := compL_gen (own := own1) (tg := tg1) (test := test1) (elt := elt) (ts := ys.map e') (γ := γ3) (acc := acc) (fun i a γ' => a = acc ++ (ys.take i).map (f x) ∧ γ' = γ3) (by rw [List.length_map]; omega) ⟨by simp, rfl⟩ (by
      rintro i t a γ' hi ⟨rfl, rfl⟩
      rw [List.getElem?_map] at hi
      obtain ⟨y, hy, rfl⟩ := Option.map_eq_some_iff.mp hi
      obtain ⟨γ4, j1, b, γ5, j2, rfl, u, γ6, j3, rfl, j4⟩ := h5 y (List.mem_of_getElem? hy)
      refine ⟨γ4, j1, true, γ5, j2, fun _ => ⟨_, γ6, j3, ?_, j4⟩, fun h => nomatch h⟩
      rw [List.take_add_one, hy, List.map_append, List.append_assoc]
      rfl)
    rw [List.length_map, List.take_length] at e2
    subst e2
    subst e3
    rw [List.map_cons]
    unfold compL2
    rw [h1, Option.bind_some, h2, Option.bind_some]
    dsimp only
    rw [if_pos rfl, h3, Option.bind_some]
    dsimp only
    rw [e1, Option.bind_some]
    dsimp only
    rw [h4, compL2_map f (by rw [List.length_append, List.length_map]; omega) (fun x hx => hs x (List.mem_cons_of_mem _ hx)), List.flatMap_cons, List.append_assoc]
theorem wco2_map {α β : Type} {xs : List α} {ys : List β} {e : α → T} {e' : β → T} (f : α → β → T) (hl : xs.length * ys.length ≤ 16777216)
    (hs : ∀ x ∈ xs, @WG tg (e x) (wipeE γ own) ⟨fun γ1 => @WT test γ1 ⟨fun b γ2 => b = true ∧ @WI src1 γ2 ⟨fun ts γ3 => ts = ys.map e' ∧ backE γ γ3 own = γ ∧ ∀ y ∈ ys, @WG tg1 (e' y) (wipeE γ3 own1) ⟨fun γ4 => @WT test1 γ4 ⟨fun b γ5 => b = true ∧ @WE elt γ5 ⟨fun u γ6 => u = f x y ∧ backE γ3 γ6 own1 = γ3⟩⟩⟩⟩⟩⟩)
    (k : Ka.ap (xs.flatMap fun x => ys.map (f x)) γ) : @WCo2 own own1 tg test src1 tg1 test1 elt (xs.map e) γ Ka := by
  have := compL2_map (acc := []) f (by rw [sizeLine_eq]; simpa using hl) hs
  exact ⟨_, _, this, by simpa using k⟩
end
theorem wgP {n : Nat} {h : TgT} {p : P} {γ : En} {Kg : KG} : @WG (tgSeq n h) (pT p) γ Kg = @WG (tgSeq n h) (.tup [qT p.1, qT p.2]) γ Kg := rfl
/-! sums, moves, turns -/
theorem lofP {l : List P} : gListOf [pL l] = some (pL l) := rfl
theorem al_lin3 (d a b c q : P) (r s t : Rat) (h1 : q.1 = r * a.1 + s * b.1 + t * c.1) (h2 : q.2 = r * a.2 + s * b.2 + t * c.2) : al q d = r * al a d + s * al b d + t * al c d := by
  unfold al
  rw [h1, h2]
  grind
theorem cv_al {X : List P} {q d : P} {m : Rat} (h : Cv X q) (hX : ∀ x ∈ X, al x d ≤ m) : al q d ≤ m := by
  obtain ⟨a, b, c, ha, hb, hc, r, s, t, hr, hs, ht, h1, h2, h3⟩ := h
  rw [al_lin3 d a b c q r s t h2 h3]
  have k1 := Rat.mul_nonneg hr (show 0 ≤ m - al a d by have := hX a ha; grind)
  have k2 := Rat.mul_nonneg hs (show 0 ≤ m - al b d by have := hX b hb; grind)
  have k3 := Rat.mul_nonneg ht (show 0 ≤ m - al c d by have := hX c hc; grind)
  have : r = 1 - s - t := by grind
  subst this
  grind
theorem hu_cv {S h : List P} (H : Hu S h) {q : P} (hq : q ∈ S) : Cv h q := (H.has_in (H.cv_has (In.cv (.inl ⟨q, hq, q, hq, on_l q q⟩)))).cv
theorem hu_mx {S h : List P} {d : P} {m m' : Rat} (H : Hu S h) (h1 : Mx S d m) (h2 : Mx h d m') : m = m' :=
  h1.uniq h2 (fun x hx => cv_al (hu_cv H hx) h2.1) (fun x hx => h1.1 x (H.sub x hx))
theorem area_small {h : List P} (hl : h.length ≤ 2) : A2 (sd h) / 2 = 0 := by
  match h, hl with
  | [], _ =>
    show (0 : Rat) / 2 = 0
    grind
  | [a], _ =>
    show (0 + ar (a, a)) / 2 = 0
    unfold ar
    grind
  | [a, b], _ =>
    have e : sd [a, b] = [(b, a), (a, b)] := by simp [sd, cy, g, List.range_succ]
    rw [e]
    show (0 + ar (b, a) + ar (a, b)) / 2 = 0
    unfold ar
    grind
  | _ :: _ :: _ :: _, hl => simp at hl
def ad (x y : P) : P := (x.1 + y.1, x.2 + y.2)
def sumP (a b : List P) : List P := a.flatMap fun x => b.map fun y => ad x y
theorem mem_sumP {a b : List P} {z : P} : z ∈ sumP a b ↔ ∃ x ∈ a, ∃ y ∈ b, z = ad x y := by
  unfold sumP
  rw [List.mem_flatMap]
  constructor
  · rintro ⟨x, hx, h⟩
    obtain ⟨y, hy, rfl⟩ := List.mem_map.mp h
    exact ⟨x, hx, y, hy, rfl⟩
  · rintro ⟨x, hx, y, hy, rfl⟩
    exact ⟨x, hx, List.mem_map.mpr ⟨y, hy, rfl⟩⟩
theorem sumP_len (a b : List P) : (sumP a b).length = a.length * b.length := by
  unfold sumP
  induction a with
  | nil => simp
  | cons x a ih => rw [List.flatMap_cons, List.length_append, ih, List.length_map, List.length_cons, Nat.add_mul, Nat.one_mul, Nat.add_comm]
theorem al_ad (x y d : P) : al (ad x y) d = al x d + al y d := by unfold al ad; grind
theorem mx_sum {a b : List P} {d : P} (ha : a ≠ []) (hb : b ≠ []) : mx (sumP a b) d = mx a d + mx b d := by
  obtain ⟨h1, x, hx, e1⟩ := mx_ok (d := d) ha
  obtain ⟨h2, y, hy, e2⟩ := mx_ok (d := d) hb
  refine (Mx.eq ⟨fun z hz => ?_, ad x y, mem_sumP.mpr ⟨x, hx, y, hy, rfl⟩, by rw [al_ad, ← e1, ← e2]⟩).symm
  obtain ⟨u, hu, w, hw, rfl⟩ := mem_sumP.mp hz
  rw [al_ad]
  have := h1 u hu
  have := h2 w hw
  grind
theorem mx_hu {S h : List P} (H : Hu S h) (d : P) : mx h d = mx S d := by
  obtain ⟨p, hp⟩ := List.exists_mem_of_ne_nil h H.ne
  have hS : S ≠ [] := fun e => by
    have := H.sub p hp
    rw [e] at this
    cases this
  exact (hu_mx H (mx_ok hS) (mx_ok H.ne)).symm
theorem Zp.ad {n : Nat} {x y : P} (hx : Zp n x) (hy : Zp n y) : Zp (2 * n + 1) (ad x y) := ⟨(sz_add hx.1 hy.1).mono (by omega), (sz_add hx.2 hy.2).mono (by omega)⟩
theorem Zp.opp {n : Nat} {x : P} (hx : Zp n x) : Zp n (Hl.neg x) := ⟨sz_neg hx.1, sz_neg hx.2⟩
section
variable {l m : List P} {n : Nat}
theorem added_spec (hl : l.length * m.length ≤ 100000) (hz : ∀ p ∈ l, Zp n p) (hz' : ∀ p ∈ m, Zp n p) (hn : 16 * n + 18 ≤ 9000) : sem_added [pL l, pL m] = some (pL (HU (sumP l m)), []) := by
  refine wc_eq ?_
  unfold sem_added F_added
  dsimp? [Int.cast_ofNat_Int, Int.natCast_one, Int.natCast_zero, ixP0, ixP1, ixQ0, ixQ1, r_eqP, r_neP, r_eqQ, r_neQ, r_eqL, r_neL, r_inP, r_ninP, lenP, slTo, slFrom, slLast, slLastN, revP, isLP, ↓sAP, ↓sLP, qT_0, ↓we_comp2]
  refine wco2_map (ys := m) (e' := pT) (fun x y => pT (ad x y)) (by omega) (fun x hx => ?_) ?_
  · dsimp? [Int.cast_ofNat_Int, Int.natCast_one, Int.natCast_zero, ixP0, ixP1, ixQ0, ixQ1, r_eqP, r_neP, r_eqQ, r_neQ, r_eqL, r_neL, r_inP, r_ninP, lenP, slTo, slFrom, slLast, slLastN, revP, isLP, ↓sAP, ↓sLP, qT_0, ↓wgP]
    refine fun y hy => ?_
    dsimp? [Int.cast_ofNat_Int, Int.natCast_one, Int.natCast_zero, ixP0, ixP1, ixQ0, ixQ1, r_eqP, r_neP, r_eqQ, r_neQ, r_eqL, r_neL, r_inP, r_ninP, lenP, slTo, slFrom, slLast, slLastN, revP, isLP, ↓sAP, ↓sLP, qT_0, ↓wgP, plus_spec (hz x hx).1 (hz' y hy).1 (by omega), plus_spec (hz x hx).2 (hz' y hy).2 (by omega)]
    rfl
  · have e : T.lst (l.flatMap fun x => m.map fun y => pT (ad x y)) = pL (sumP l m) := by
      unfold pL sumP
      rw [List.map_flatMap]
      simp [List.map_map, Function.comp_def]
    dsimp? [Int.cast_ofNat_Int, Int.natCast_one, Int.natCast_zero, ixP0, ixP1, ixQ0, ixQ1, r_eqP, r_neP, r_eqQ, r_neQ, r_eqL, r_neL, r_inP, r_ninP, lenP, slTo, slFrom, slLast, slLastN, revP, isLP, ↓sAP, ↓sLP, qT_0, e, hull_spec (l := sumP l m) (n := 2 * n + 1) (by rw [sumP_len]; omega) (fun p hp => by
      obtain ⟨x, hx, y, hy, rfl⟩ := mem_sumP.mp hp
      exact (hz x hx).ad (hz' y hy)) (by omega)]
theorem turned_spec (hl : l.length ≤ 100000) (hz : ∀ p ∈ l, Zp n p) (hn : 8 * n + 10 ≤ 9000) : sem_turned_round [pL l] = some (pL (HU (l.map Hl.neg)), []) := by
  refine wc_eq ?_
  unfold sem_turned_round F_turned_round
  dsimp? [Int.cast_ofNat_Int, Int.natCast_one, Int.natCast_zero, ixP0, ixP1, ixQ0, ixQ1, r_eqP, r_neP, r_eqQ, r_neQ, r_eqL, r_neL, r_inP, r_ninP, lenP, slTo, slFrom, slLast, slLastN, revP, isLP, ↓sAP, ↓sLP, qT_0]
  refine wco_mapx (fun x => pT (Hl.neg x)) (by omega) (fun x hx => ?_) ?_
  · dsimp? [Int.cast_ofNat_Int, Int.natCast_one, Int.natCast_zero, ixP0, ixP1, ixQ0, ixQ1, r_eqP, r_neP, r_eqQ, r_neQ, r_eqL, r_neL, r_inP, r_ninP, lenP, slTo, slFrom, slLast, slLastN, revP, isLP, ↓sAP, ↓sLP, qT_0, ↓wgP, negative_spec]
    rfl
  · have e : T.lst (l.map fun x => pT (Hl.neg x)) = pL (l.map Hl.neg) := by
      unfold pL
      rw [List.map_map]
      rfl
    dsimp? [Int.cast_ofNat_Int, Int.natCast_one, Int.natCast_zero, ixP0, ixP1, ixQ0, ixQ1, r_eqP, r_neP, r_eqQ, r_neQ, r_eqL, r_neL, r_inP, r_ninP, lenP, slTo, slFrom, slLast, slLastN, revP, isLP, ↓sAP, ↓sLP, qT_0, e, hull_spec (l := l.map Hl.neg) (n := n) (by rw [List.length_map]; omega) (fun p hp => by
      obtain ⟨x, hx, rfl⟩ := List.mem_map.mp hp
      exact (hz x hx).opp) hn]
theorem sz_mx {d : P} (hn0 : l ≠ []) (hz : ∀ p ∈ l, Zp n p) (hd : Zp n d) : Sz (4 * n + 1) (mx l d) := by
  obtain ⟨_, x, hx, e⟩ := mx_ok (d := d) hn0
  rw [e]
  exact sz_al (hz x hx) hd
theorem reach_mx {d : P} (hn0 : l ≠ []) (hl : l.length ≤ 100000) (hz : ∀ p ∈ l, Zp n p) (hd : Zp n d) (hn : 8 * n + 10 ≤ 9000) : sem_reach [pL l, pT d] = some (qT (mx l d), []) := by
  obtain ⟨m, e, k⟩ := reach_spec hn0 hl hz hd hn
  rw [← k.eq]
  exact e
theorem lreach_mx {d : P} (hn0 : l ≠ []) (hl : l.length ≤ 100000) (hz : ∀ p ∈ l, Zp n p) (hd : Zp n d) (hn : n ≤ 24) : sem__law_reach [pL l, pT d] = some (qT (mx l d), []) := by
  obtain ⟨m, e, k⟩ := lreach_spec hn0 hl hz hd hn
  rw [← k.eq]
  exact e
def sq (l : List P) (d : P) : Rat := W l d * W l d / nn d
theorem Zp.opp' {d : P} (hd : Zp n d) : Zp n (ng d) := ⟨sz_neg hd.1, sz_neg hd.2⟩
theorem nn_ne {d : P} (h : d ≠ (0, 0)) : nn d ≠ 0 := by have := nn_pos h; grind
theorem sz_nn {d : P} (hd : Zp n d) : Sz (4 * n + 1) (nn d) := (sz_add (sz_mul hd.1 hd.1) (sz_mul hd.2 hd.2)).mono (by omega)
theorem sz_W {d : P} (hn0 : l ≠ []) (hz : ∀ p ∈ l, Zp n p) (hd : Zp n d) : Sz (8 * n + 3) (W l d) := (sz_add (sz_mx hn0 hz hd) (sz_mx hn0 hz hd.opp')).mono (by omega)
theorem sz_sq {d : P} (hn0 : l ≠ []) (hz : ∀ p ∈ l, Zp n p) (hd : Zp n d) (h0 : d ≠ (0, 0)) : Sz (20 * n + 7) (sq l d) := (sz_div (sz_mul (sz_W hn0 hz hd) (sz_W hn0 hz hd)) (sz_nn hd) (nn_ne h0)).mono (by omega)
theorem squared_spec {d : P} (hn0 : l ≠ []) (hl : l.length ≤ 100000) (hz : ∀ p ∈ l, Zp n p) (hd : Zp n d) (h0 : d ≠ (0, 0)) (hn : 20 * n + 10 ≤ 9000) : sem_squared_width [pL l, pT d] = some (qT (sq l d), []) := by
  have m1 := sz_mx hn0 hz hd
  have m2 := sz_mx hn0 hz hd.opp'
  have w := sz_W hn0 hz hd
  have w' : plus_spec m1 m2 (by omega) = plus_spec m1 m2 (by omega) := rfl
  have eW : mx l d + mx l (ng d) = W l d := rfl
  refine wc_eq ?_
  unfold sem_squared_width F_squared_width
  dsimp? [Int.cast_ofNat_Int, Int.natCast_one, Int.natCast_zero, ixP0, ixP1, ixQ0, ixQ1, r_eqP, r_neP, r_eqQ, r_neQ, r_eqL, r_neL, r_inP, r_ninP, lenP, slTo, slFrom, slLast, slLastN, revP, isLP, ↓sAP, ↓sLP, qT_0, ↓wgP, reach_mx hn0 hl hz hd (by omega), negative_spec, show T.tup [qT (-d.1), qT (-d.2)] = pT (ng d) from rfl, reach_mx hn0 hl hz hd.opp' (by omega), plus_spec m1 m2 (by omega), eW, times_spec w w (by omega), times_spec hd.1 hd.1 (by omega), times_spec hd.2 hd.2 (by omega), plus_spec (sz_mul hd.1 hd.1) (sz_mul hd.2 hd.2) (by omega), show d.1 * d.1 + d.2 * d.2 = nn d from rfl, over_spec (sz_mul w w) (sz_nn hd) (nn_ne h0) (by omega)]
  rfl
theorem lsquared_spec {d : P} (hn0 : l ≠ []) (hl : l.length ≤ 100000) (hz : ∀ p ∈ l, Zp 7 p) (hd : Zp 7 d) (h0 : d ≠ (0, 0)) : sem__law_squared [pL l, pT d] = some (qT (sq l d), []) := by
  have m1 := sz_mx hn0 hz hd
  have m2 := sz_mx hn0 hz hd.opp'
  have w := sz_W hn0 hz hd
  have eW : mx l d + mx l (ng d) = W l d := rfl
  refine wc_eq ?_
  unfold sem__law_squared F__law_squared
  dsimp? [Int.cast_ofNat_Int, Int.natCast_one, Int.natCast_zero, ixP0, ixP1, ixQ0, ixQ1, r_eqP, r_neP, r_eqQ, r_neQ, r_eqL, r_neL, r_inP, r_ninP, lenP, slTo, slFrom, slLast, slLastN, revP, isLP, ↓sAP, ↓sLP, qT_0, qT_neg, show T.tup [qT (-d.1), qT (-d.2)] = pT (ng d) from rfl, lreach_mx hn0 hl hz hd (by omega), lreach_mx hn0 hl hz hd.opp' (by omega), lplus_spec m1 m2 (by omega), eW, ltimes_spec w w (by omega), ltimes_spec hd.1 hd.1 (by omega), ltimes_spec hd.2 hd.2 (by omega), lplus_spec (sz_mul hd.1 hd.1) (sz_mul hd.2 hd.2) (by omega), show d.1 * d.1 + d.2 * d.2 = nn d from rfl, lover_spec (sz_mul w w) (sz_nn hd) (nn_ne h0) (by omega)]
  rfl
end
end LawS

namespace LawS
open Tw L2 LawP Hl
/-! points in sixths -/
def Nm (B : Nat) (x : Rat) : Prop := ∃ i : Int, i.natAbs ≤ B ∧ x = (i : Rat) / (6 : Int)
def Np (B : Nat) (p : P) : Prop := Nm B p.1 ∧ Nm B p.2
theorem Nm.sz {B n : Nat} {x : Rat} (h : Nm B x) (hb : B < 2 ^ n) (h3 : 3 ≤ n) : Sz n x := by
  obtain ⟨i, hi, rfl⟩ := h
  refine Sz.div (by omega) ?_ (by decide)
  exact Nat.lt_of_lt_of_le (show (6 : Int).natAbs < 2 ^ 3 by decide) (Nat.pow_le_pow_right (by decide) h3)
theorem Np.zp {B n : Nat} {p : P} (h : Np B p) (hb : B < 2 ^ n) (h3 : 3 ≤ n) : Zp n p := ⟨h.1.sz hb h3, h.2.sz hb h3⟩
theorem Nm.sub {A B : Nat} {x y : Rat} (hx : Nm A x) (hy : Nm B y) : Nm (A + B) (x - y) := by
  obtain ⟨i, hi, rfl⟩ := hx
  obtain ⟨j, hj, rfl⟩ := hy
  refine ⟨i - j, by omega, ?_⟩
  rw [Rat.intCast_sub]
  grind
theorem Nm.add {A B : Nat} {x y : Rat} (hx : Nm A x) (hy : Nm B y) : Nm (A + B) (x + y) := by
  obtain ⟨i, hi, rfl⟩ := hx
  obtain ⟨j, hj, rfl⟩ := hy
  refine ⟨i + j, by omega, ?_⟩
  rw [Rat.intCast_add]
  grind
theorem Nm.neg {A : Nat} {x : Rat} (hx : Nm A x) : Nm A (-x) := by
  obtain ⟨i, hi, rfl⟩ := hx
  refine ⟨-i, by omega, ?_⟩
  rw [Rat.intCast_neg]
  grind
theorem nm_of {i q : Int} {top : Int} (hq : q = 1 ∨ q = 2 ∨ q = 3) (h1 : -(top * q) ≤ i) (h2 : i ≤ top * q) : Nm (6 * top).toNat ((i : Rat) / (q : Int)) := by
  rcases hq with rfl | rfl | rfl
  · refine ⟨6 * i, by omega, ?_⟩
    rw [Rat.intCast_mul]
    grind
  · refine ⟨3 * i, by omega, ?_⟩
    rw [Rat.intCast_mul]
    grind
  · refine ⟨2 * i, by omega, ?_⟩
    rw [Rat.intCast_mul]
    grind
theorem number_n {ns : List Int} {p : T} {K : KC} {top : Int} (hp : Pool ns p) (ht : 1 ≤ top ∧ top ≤ 9) (k : ∀ x p', Pool ns p' → Nm (6 * top).toNat x → K.ap (qT x) [p']) : @WC (sem__law_number [p, .int top]) K := by
  have o1 : okMul 2 top = true := okMul_r (by omega)
  unfold sem__law_number F__law_number
  dsimp?
  refine pick_w hp (by simp) (by decide) fun v p1 h1 hv => ?_
  obtain ⟨q, rfl, hq⟩ : ∃ q : Int, v = .int q ∧ (q = 1 ∨ q = 2 ∨ q = 3) := by
    simp at hv
    rcases hv with rfl | rfl | rfl <;> exact ⟨_, rfl, by omega⟩
  have o2 : okMul (2 * top) q = true := okMul_r (by omega)
  have o3 : okMul top q = true := okMul_r (by omega)
  have b1 : 1 ≤ top * q := by rcases hq with rfl | rfl | rfl <;> omega
  have b2 : top * q ≤ 27 := by rcases hq with rfl | rfl | rfl <;> omega
  have e2 : 2 * top * q = 2 * (top * q) := by rw [Int.mul_assoc]
  dsimp? [o1, o2, o3]
  refine draw_w h1 (by omega) (by omega) fun w p2 h2 hw => ?_
  dsimp? [o3]
  have hf := lfrac_spec ((w : Int) - top * q) q (by omega) (n := 2) (by omega) (by omega)
  dsimp? [hf]
  exact k _ _ h2 (nm_of hq (by omega) (by omega))
theorem point_n {ns : List Int} {p : T} {K : KC} {top : Int} (hp : Pool ns p) (ht : 1 ≤ top ∧ top ≤ 9) (k : ∀ x p', Pool ns p' → Np (6 * top).toNat x → K.ap (pT x) [p']) : @WC (sem__law_point [p, .int top]) K := by
  unfold sem__law_point F__law_point
  dsimp?
  refine number_n hp ht fun x p1 h1 hx => ?_
  dsimp?
  refine number_n h1 ht fun y p2 h2 hy => ?_
  dsimp?
  exact k (x, y) p2 h2 ⟨hx, hy⟩
theorem points_n {ns : List Int} {p : T} {K : KC} {top most : Int} (hp : Pool ns p) (ht : 1 ≤ top ∧ top ≤ 9) (hm : 1 ≤ most ∧ most ≤ 1000) (k : ∀ l p', Pool ns p' → l ≠ [] → (l.length : Int) ≤ most → (∀ x ∈ l, Np (6 * top).toNat x) → K.ap (pL l) [p']) : @WC (sem__law_points [p, .int most, .int top]) K := by
  unfold sem__law_points F__law_points
  dsimp?
  refine draw_w hp (by omega) (by omega) fun v p1 h1 hv => ?_
  dsimp?
  refine sd_i (by omega) ?_
  dsimp?
  refine wf_rng (I := fun i γ => ∃ p l, Pool ns p ∧ l.length = i ∧ (∀ x ∈ l, Np (6 * top).toNat x) ∧ γ = [some p, some (.int most), some (.int top), some (pL l), none, none]) ⟨p1, [], h1, rfl, by simp, rfl⟩ ?_ ?_
  · rintro i γ hi ⟨p2, l, h2, hl, hz, rfl⟩
    dsimp?
    refine next_w h2 fun p3 h3 => ?_
    dsimp? [Int.cast_ofNat_Int, Int.natCast_one, Int.natCast_zero, ixP0, ixP1, ixQ0, ixQ1, r_eqP, r_neP, r_eqQ, r_neQ, r_eqL, r_neL, r_inP, r_ninP, lenP, slTo, slFrom, slLast, slLastN, revP, isLP, ↓sAP, ↓sLP, qT_0]
    refine point_n h3 ht fun x p4 h4 hx => ?_
    dsimp? [Int.cast_ofNat_Int, Int.natCast_one, Int.natCast_zero, ixP0, ixP1, ixQ0, ixQ1, r_eqP, r_neP, r_eqQ, r_neQ, r_eqL, r_neL, r_inP, r_ninP, lenP, slTo, slFrom, slLast, slLastN, revP, isLP, ↓sAP, ↓sLP, qT_0, appP (l := l) (a := x) (by omega)]
    exact ⟨p4, l ++ [x], h4, by simp; omega, fun y hy => by
      rcases List.mem_append.mp hy with hy | hy
      · exact hz y hy
      · rw [List.mem_singleton.mp hy]; exact hx, rfl⟩
  · rintro γ ⟨p2, l, h2, hl, hz, rfl⟩
    have hne : l ≠ [] := fun e => by rw [e] at hl; simp at hl; omega
    have ok := fun p' hp' => k l p' hp' hne (by omega) hz
    dsimp? [Int.cast_ofNat_Int, Int.natCast_one, Int.natCast_zero, ixP0, ixP1, ixQ0, ixQ1, r_eqP, r_neP, r_eqQ, r_neQ, r_eqL, r_neL, r_inP, r_ninP, lenP, slTo, slFrom, slLast, slLastN, revP, isLP, ↓sAP, ↓sLP, qT_0]
    refine br_d (fun c => ?_) (fun c => ?_)
    · dsimp? [Int.cast_ofNat_Int, Int.natCast_one, Int.natCast_zero, ixP0, ixP1, ixQ0, ixQ1, r_eqP, r_neP, r_eqQ, r_neQ, r_eqL, r_neL, r_inP, r_ninP, lenP, slTo, slFrom, slLast, slLastN, revP, isLP, ↓sAP, ↓sLP, qT_0]
      refine draw_w h2 (by decide) (by decide) fun w p3 h3 hw => ?_
      dsimp? [Int.cast_ofNat_Int, Int.natCast_one, Int.natCast_zero, ixP0, ixP1, ixQ0, ixQ1, r_eqP, r_neP, r_eqQ, r_neQ, r_eqL, r_neL, r_inP, r_ninP, lenP, slTo, slFrom, slLast, slLastN, revP, isLP, ↓sAP, ↓sLP, qT_0]
      refine br_d (fun c2 => ?_) (fun c2 => ?_)
      · unfold pL
        dsimp? [Int.cast_ofNat_Int, Int.natCast_one, Int.natCast_zero, ixP0, ixP1, ixQ0, ixQ1, r_eqP, r_neP, r_eqQ, r_neQ, r_eqL, r_neL, r_inP, r_ninP, lenP, slTo, slFrom, slLast, slLastN, revP, isLP, ↓sAP, ↓sLP, qT_0]
        refine wco_mapx (fun x => pT (x.1, x.1)) (by omega) (fun x hx => ?_) ?_
        · dsimp? [Int.cast_ofNat_Int, Int.natCast_one, Int.natCast_zero, ixP0, ixP1, ixQ0, ixQ1, r_eqP, r_neP, r_eqQ, r_neQ, r_eqL, r_neL, r_inP, r_ninP, lenP, slTo, slFrom, slLast, slLastN, revP, isLP, ↓sAP, ↓sLP, qT_0]
          rfl
        · have e : T.lst (l.map fun x => pT (x.1, x.1)) = pL (l.map fun x => (x.1, x.1)) := by
            unfold pL
            rw [List.map_map]
            rfl
          dsimp? [Int.cast_ofNat_Int, Int.natCast_one, Int.natCast_zero, ixP0, ixP1, ixQ0, ixQ1, r_eqP, r_neP, r_eqQ, r_neQ, r_eqL, r_neL, r_inP, r_ninP, lenP, slTo, slFrom, slLast, slLastN, revP, isLP, ↓sAP, ↓sLP, qT_0, e]
          refine k _ _ h3 (by simpa using hne) (by rw [List.length_map]; omega) fun x hx => ?_
          obtain ⟨y, hy, rfl⟩ := List.mem_map.mp hx
          exact ⟨(hz y hy).1, (hz y hy).1⟩
      · dsimp? [Int.cast_ofNat_Int, Int.natCast_one, Int.natCast_zero, ixP0, ixP1, ixQ0, ixQ1, r_eqP, r_neP, r_eqQ, r_neQ, r_eqL, r_neL, r_inP, r_ninP, lenP, slTo, slFrom, slLast, slLastN, revP, isLP, ↓sAP, ↓sLP, qT_0]
        exact ok _ h3
    · dsimp? [Int.cast_ofNat_Int, Int.natCast_one, Int.natCast_zero, ixP0, ixP1, ixQ0, ixQ1, r_eqP, r_neP, r_eqQ, r_neQ, r_eqL, r_neL, r_inP, r_ninP, lenP, slTo, slFrom, slLast, slLastN, revP, isLP, ↓sAP, ↓sLP, qT_0]
      exact ok _ h2
/-! the least width -/
section
variable {S h : List P} {n : Nat}
theorem nrm_ne (H : Hu S h) (h3 : 3 ≤ h.length) (k : Nat) : nrm (cy h k, cy h (k + 1)) ≠ (0, 0) := fun z => by
  have t := H.tn h3 k
  have : cy h (k + 1) = cy h k := by
    have z1 := congrArg Prod.fst z
    have z2 := congrArg Prod.snd z
    unfold nrm at z1 z2
    apply Prod.ext <;> grind
  rw [this, cr_aab] at t
  exact absurd t (by decide)
theorem sd_cy {e : P × P} (he : e ∈ sd h) : ∃ k, e = (cy h k, cy h (k + 1)) := by
  obtain ⟨k, hk, rfl⟩ := List.mem_map.mp he
  have hk := List.mem_range.mp hk
  refine ⟨k + h.length - 1, ?_⟩
  rw [show k + h.length - 1 + 1 = k + h.length by omega, cy_per]
theorem cy_sd (h0 : h ≠ []) (k : Nat) : (cy h k, cy h (k + 1)) ∈ sd h := by
  have l0 := List.length_pos_iff.mpr h0
  have hm := Nat.mod_lt (k + 1) l0
  refine List.mem_map.mpr ⟨(k + 1) % h.length, List.mem_range.mpr hm, ?_⟩
  have e1 : cy h ((k + 1) % h.length) = cy h (k + 1) := by have := cy_mod h (k + 1) 0; simpa using this
  have e2 : cy h ((k + 1) % h.length + h.length - 1) = cy h k := by
    have := cy_mod h (k + 1) (h.length - 1)
    rw [show (k + 1) % h.length + (h.length - 1) = (k + 1) % h.length + h.length - 1 by omega, show k + 1 + (h.length - 1) = k + h.length by omega, cy_per] at this
    exact this
  rw [e1, e2]
theorem Zp.nrm {e : P × P} (h1 : Zp n e.1) (h2 : Zp n e.2) : Zp (2 * n + 1) (nrm e) := ⟨(sz_sub h2.2 h1.2).mono (by omega), (sz_sub h1.1 h2.1).mono (by omega)⟩
theorem least_spec (H : Hu S h) (h3 : 3 ≤ h.length) (hl : h.length ≤ 1000) (hz : ∀ p ∈ h, Zp n p) (hn : 80 * n + 100 ≤ 9000) : ∃ e ∈ sd h, sem_least_width [pL h] = some (.tup [qT (sq h (nrm e)), pT (nrm e)], []) ∧ ∀ e' ∈ sd h, sq h (nrm e) ≤ sq h (nrm e') := by
  suffices hh : @WC (sem_least_width [pL h]) ⟨fun t us => us = [] ∧ ∃ e ∈ sd h, t = .tup [qT (sq h (nrm e)), pT (nrm e)] ∧ ∀ e' ∈ sd h, sq h (nrm e) ≤ sq h (nrm e')⟩ by
    obtain ⟨t, us, q, rfl, e, he, rfl, k⟩ := hh
    exact ⟨e, he, q, k⟩
  have hzN : ∀ p ∈ h, Zp (2 * n + 1) p := fun p hp => (hz p hp).mono (by omega)
  unfold sem_least_width F_least_width
  dsimp? [Int.cast_ofNat_Int, Int.natCast_one, Int.natCast_zero, ixP0, ixP1, ixQ0, ixQ1, r_eqP, r_neP, r_eqQ, r_neQ, r_eqL, r_neL, r_inP, r_ninP, lenP, slTo, slFrom, slLast, slLastN, revP, isLP, ↓sAP, ↓sLP, qT_0, sides_spec (l := h) (by omega)]
  refine wf_map (I := fun i γ => (i = 0 ∧ γ = [some (pL h), some .non, none, none, none, none]) ∨ ∃ e ∈ sd h, γ = [some (pL h), some (.tup [qT (sq h (nrm e)), pT (nrm e)]), none, none, none, none] ∧ ∀ e' ∈ (sd h).take i, sq h (nrm e) ≤ sq h (nrm e')) (.inl ⟨rfl, rfl⟩) ?_ ?_
  · intro i γ hi hI
    have he := List.getElem_mem hi
    obtain ⟨k, ek⟩ := sd_cy he
    have nz := nrm_ne H h3 k
    rw [← ek] at nz
    have z1 := hz _ (mem_sd he).1
    have z2 := hz _ (mem_sd he).2
    have zn := z1.nrm (e := (sd h)[i]) z2
    have s1 := minus_spec z2.2 z1.2 (by omega)
    have s2 := minus_spec z1.1 z2.1 (by omega)
    have sp := squared_spec H.ne (by omega) hzN zn nz (by omega)
    have se := sz_sq H.ne hzN zn nz
    have en : T.tup [qT ((sd h)[i].2.2 - (sd h)[i].1.2), qT ((sd h)[i].1.1 - (sd h)[i].2.1)] = pT (nrm (sd h)[i]) := rfl
    have tk : ∀ e' ∈ (sd h).take (i + 1), e' ∈ (sd h).take i ∨ e' = (sd h)[i] := fun e' h' => (mem_take_s hi).mp h'
    unfold eS
    rcases hI with ⟨rfl, rfl⟩ | ⟨e, hE, rfl, hm⟩
    · dsimp? [Int.cast_ofNat_Int, Int.natCast_one, Int.natCast_zero, ixP0, ixP1, ixQ0, ixQ1, r_eqP, r_neP, r_eqQ, r_neQ, r_eqL, r_neL, r_inP, r_ninP, lenP, slTo, slFrom, slLast, slLastN, revP, isLP, ↓sAP, ↓sLP, qT_0, s1, s2, en, sp]
      refine .inr ⟨_, he, rfl, fun e' h' => ?_⟩
      rcases tk e' h' with h' | h'
      · simp at h'
      · rw [h']; exact Rat.le_refl
    · obtain ⟨k', ek'⟩ := sd_cy hE
      have nz' := nrm_ne H h3 k'
      rw [← ek'] at nz'
      have se' := sz_sq H.ne hzN ((hz _ (mem_sd hE).1).nrm (hz _ (mem_sd hE).2)) nz'
      dsimp? [Int.cast_ofNat_Int, Int.natCast_one, Int.natCast_zero, ixP0, ixP1, ixQ0, ixQ1, r_eqP, r_neP, r_eqQ, r_neQ, r_eqL, r_neL, r_inP, r_ninP, lenP, slTo, slFrom, slLast, slLastN, revP, isLP, ↓sAP, ↓sLP, qT_0, s1, s2, en, sp, less_spec se se' (by omega)]
      refine br_d (fun c => ?_) (fun c => ?_)
      · dsimp? [Int.cast_ofNat_Int, Int.natCast_one, Int.natCast_zero, ixP0, ixP1, ixQ0, ixQ1, r_eqP, r_neP, r_eqQ, r_neQ, r_eqL, r_neL, r_inP, r_ninP, lenP, slTo, slFrom, slLast, slLastN, revP, isLP, ↓sAP, ↓sLP, qT_0]
        refine .inr ⟨_, he, rfl, fun e' h' => ?_⟩
        rcases tk e' h' with h' | h'
        · have := hm e' h'; grind
        · rw [h']; exact Rat.le_refl
      · dsimp? [Int.cast_ofNat_Int, Int.natCast_one, Int.natCast_zero, ixP0, ixP1, ixQ0, ixQ1, r_eqP, r_neP, r_eqQ, r_neQ, r_eqL, r_neL, r_inP, r_ninP, lenP, slTo, slFrom, slLast, slLastN, revP, isLP, ↓sAP, ↓sLP, qT_0]
        refine .inr ⟨e, hE, rfl, fun e' h' => ?_⟩
        rcases tk e' h' with h' | h'
        · exact hm e' h'
        · rw [h']; grind
  · rintro γ (⟨hh, _⟩ | ⟨e, hE, rfl, hm⟩)
    · rw [sd_len] at hh; omega
    · rw [List.take_length] at hm
      dsimp? [Int.cast_ofNat_Int, Int.natCast_one, Int.natCast_zero, ixP0, ixP1, ixQ0, ixQ1, r_eqP, r_neP, r_eqQ, r_neQ, r_eqL, r_neL, r_inP, r_ninP, lenP, slTo, slFrom, slLast, slLastN, revP, isLP, ↓sAP, ↓sLP, qT_0]
      exact ⟨e, hE, rfl, hm⟩
theorem sq_nn' {d : P} (h0 : d ≠ (0, 0)) : 0 ≤ sq h d := by
  have p := nn_pos h0
  have e : sq h d * nn d = W h d * W h d := by unfold sq; grind
  exact nn_of_mul p (by rw [e]; exact sq_nn _)
/-- no direction has less than the least over the sides -/
theorem least_all (H : Hu S h) (h3 : 3 ≤ h.length) {M : Rat} (hM : 0 ≤ M) (hs : ∀ e ∈ sd h, M ≤ sq h (nrm e)) {d : P} (hd : d ≠ (0, 0)) : M ≤ sq h d := by
  have key := calip H h3 hM (fun k => by
    have p := nn_pos (nrm_ne H h3 k)
    have a := hs _ (cy_sd H.ne k)
    generalize nrm (cy h k, cy h (k + 1)) = m at *
    have e : sq h m * nn m = W h m * W h m := by unfold sq; grind
    rw [← e]
    have := Rat.mul_nonneg (show 0 ≤ sq h m - M by grind) (Rat.le_of_lt p)
    grind) hd
  have p := nn_pos hd
  have e : sq h d * nn d = W h d * W h d := by unfold sq; grind
  rw [← e] at key
  have := nn_of_mul (x := sq h d - M) p (by grind)
  grind
theorem Hu.three (H : Hu S h) {a b c : P} (ha : a ∈ S) (hb : b ∈ S) (hc : c ∈ S) (h0 : cr a b c ≠ 0) : 3 ≤ h.length := by
  have l0 := List.length_pos_iff.mpr H.ne
  apply Classical.byContradiction
  intro hn
  by_cases c1 : h.length = 1
  · rw [H.one c1 a ha, H.one c1 b hb, cr_aab] at h0
    exact h0 rfl
  · have l2 : h.length = 2 := by omega
    have z : ∀ q ∈ S, cr (g h 0) (g h 1) q = 0 := fun q hq => by
      have s1 := H.sp 0 q hq
      have s2 := H.sp 1 q hq
      rw [cy_lt l0, cy_lt (by omega)] at s1
      rw [cy_lt (by omega), show 1 + 1 = 0 + h.length by omega, cy_per, cy_lt l0, cr_sw] at s2
      grind
    have ne : vc (g h 0) (g h 1) ≠ (0, 0) := fun e => by
      have : g h 0 = g h 1 := by
        have z1 := congrArg Prod.fst e
        have z2 := congrArg Prod.snd e
        unfold vc at z1 z2
        apply Prod.ext <;> grind
      have := nd_g H.nd l0 (by omega) this
      omega
    have za := z a ha
    have zb := z b hb
    have zc := z c hc
    generalize g h 0 = u at *
    generalize g h 1 = w at *
    have ne' : ((vc u w).2, -(vc u w).1) ≠ ((0 : Rat), (0 : Rat)) := fun e => ne (by
      have z1 := congrArg Prod.fst e
      have z2 := congrArg Prod.snd e
      apply Prod.ext <;> grind)
    refine h0 ?_
    rw [cr_vc]
    refine par_z ne' ?_ ?_
    · unfold cr vc al at *; grind
    · unfold cr vc al at *; grind
end
end LawS

/-! half planes, cuts: plain mathematics -/
namespace LawS
open Tw L2 LawP Hl
section
variable {S h X : List P} {q z : P}
theorem cv_self {X : List P} {x : P} (hx : x ∈ X) : Cv X x := In.cv (.inl ⟨x, hx, x, hx, on_l x x⟩)
theorem Hu.extend (H : Hu S h) (hX : ∀ x ∈ X, Cv h x) : Hu (X ++ h) h := by
  have l0 := List.length_pos_iff.mpr H.ne
  have cvx : ∀ x ∈ X ++ h, Cv h x := fun x hx => by
    rcases List.mem_append.mp hx with hx | hx
    · exact hX x hx
    · exact cv_self hx
  refine ⟨H.ne, H.nd, fun p hp => List.mem_append_right _ hp, fun y hy => ?_, fun c y hy => ?_, fun c y hy => ?_, fun k y hy => (cvx y hy).half fun x hx => H.sp k x (H.sub x hx), H.tn⟩
  · have k := (cvx y hy).nge (m := g h 0) fun x hx a => by
      rcases H.fst x (H.sub x hx) with b | b
      · rw [b] at a; exact lt_ir a
      · exact lt_ir (lt_tr a b)
    rcases lt_tri (g h 0) y with a | a | a
    · exact .inr a
    · exact .inl a.symm
    · exact absurd a k
  · have k1 := (cvx y hy).nge (m := g h 0) fun x hx a => by rw [H.one c x (H.sub x hx)] at a; exact lt_ir a
    have k2 := (cvx y hy).nle (m := g h 0) fun x hx a => by rw [H.one c x (H.sub x hx)] at a; exact lt_ir a
    rcases lt_tri (g h 0) y with a | a | a
    · exact absurd a k2
    · exact a.symm
    · exact absurd a k1
  · have k := (cvx y hy).nle (m := g h 1) fun x hx a => by
      rcases H.two c x (H.sub x hx) with b | b
      · rw [b] at a; exact lt_ir a
      · exact lt_ir (lt_tr a b)
    rcases lt_tri (g h 1) y with a | a | a
    · exact absurd a k
    · exact .inl a.symm
    · exact .inr a
theorem hu_iff (H : Hu S h) : Cv h q ↔ Cv S q := ⟨fun k => k.mono H.sub, fun k => (H.has_in (H.cv_has k)).cv⟩
theorem has_cv (H : Hu S h) : Hl.Has h q ↔ Cv h q := ⟨fun k => (H.has_in k).cv, fun k => H.cv_has (k.mono H.sub)⟩
theorem in_cv {X : List P} (hX : X ≠ []) : In X q ↔ Cv X q := by
  have H := HU_ok hX
  exact ⟨fun k => k.cv, fun k => (H.has_in (H.cv_has k)).mono H.sub⟩
theorem cv_trans {Y : List P} (hY : Y ≠ []) (hX : ∀ x ∈ X, Cv Y x) (k : Cv X z) : Cv Y z := by
  have H := HU_ok hY
  have E := LawS.Hu.extend (X := X) H fun x hx => (hu_iff H).mpr (hX x hx)
  rw [← hu_iff H, hu_iff E]
  exact k.mono fun x hx => List.mem_append_left _ hx
/-- sums of points within -/
theorem cv_sum {A B : List P} (hA : A ≠ []) (hB : B ≠ []) : Cv (sumP A B) z ↔ ∃ s t, Cv A s ∧ Cv B t ∧ z = ad s t := by
  have hS : sumP A B ≠ [] := by
    intro e
    have := congrArg List.length e
    rw [sumP_len] at this
    have a := List.length_pos_iff.mpr hA
    have b := List.length_pos_iff.mpr hB
    have := Nat.mul_pos a b
    simp at *
    omega
  constructor
  · rintro ⟨a, b, c, ha, hb, hc, r, s, t, hr, hs, ht, h1, h2, h3⟩
    obtain ⟨x1, hx1, y1, hy1, rfl⟩ := mem_sumP.mp ha
    obtain ⟨x2, hx2, y2, hy2, rfl⟩ := mem_sumP.mp hb
    obtain ⟨x3, hx3, y3, hy3, rfl⟩ := mem_sumP.mp hc
    refine ⟨(r * x1.1 + s * x2.1 + t * x3.1, r * x1.2 + s * x2.2 + t * x3.2), (r * y1.1 + s * y2.1 + t * y3.1, r * y1.2 + s * y2.2 + t * y3.2), ⟨x1, x2, x3, hx1, hx2, hx3, r, s, t, hr, hs, ht, h1, rfl, rfl⟩, ⟨y1, y2, y3, hy1, hy2, hy3, r, s, t, hr, hs, ht, h1, rfl, rfl⟩, ?_⟩
    unfold ad at *
    apply Prod.ext <;> grind
  · rintro ⟨s, t, hs, ht, rfl⟩
    have k1 : ∀ y ∈ B, Cv (sumP A B) (ad s y) := fun y hy => by
      obtain ⟨a, b, c, ha, hb, hc, r, u, w, hr, hu, hw, h1, h2, h3⟩ := hs
      refine ⟨ad a y, ad b y, ad c y, mem_sumP.mpr ⟨a, ha, y, hy, rfl⟩, mem_sumP.mpr ⟨b, hb, y, hy, rfl⟩, mem_sumP.mpr ⟨c, hc, y, hy, rfl⟩, r, u, w, hr, hu, hw, h1, ?_, ?_⟩
      · have : r = 1 - u - w := by grind
        subst this
        unfold ad
        grind
      · have : r = 1 - u - w := by grind
        subst this
        unfold ad
        grind
    refine cv_trans (X := B.map (ad s)) hS (fun x hx => ?_) ?_
    · obtain ⟨y, hy, rfl⟩ := List.mem_map.mp hx
      exact k1 y hy
    · obtain ⟨a, b, c, ha, hb, hc, r, u, w, hr, hu, hw, h1, h2, h3⟩ := ht
      refine ⟨ad s a, ad s b, ad s c, List.mem_map.mpr ⟨a, ha, rfl⟩, List.mem_map.mpr ⟨b, hb, rfl⟩, List.mem_map.mpr ⟨c, hc, rfl⟩, r, u, w, hr, hu, hw, h1, ?_, ?_⟩
      · have : r = 1 - u - w := by grind
        subst this
        unfold ad
        grind
      · have : r = 1 - u - w := by grind
        subst this
        unfold ad
        grind
theorem cv_neg {A : List P} : Cv (A.map Hl.neg) (Hl.neg z) ↔ Cv A z := by
  refine ⟨fun k => ?_, fun k => k.ngt⟩
  have := k.ngt
  rw [List.map_map, show Hl.neg ∘ Hl.neg = id from funext fun x => neg_neg x, List.map_id, neg_neg] at this
  exact this
theorem cv_ad {A : List P} {y : P} : Cv (A.map fun x => ad x y) (ad z y) ↔ Cv A z := by
  have key : ∀ {A : List P} {z y : P}, Cv A z → Cv (A.map fun x => ad x y) (ad z y) := fun {A z y} k => by
    obtain ⟨a, b, c, ha, hb, hc, r, u, w, hr, hu, hw, h1, h2, h3⟩ := k
    refine ⟨ad a y, ad b y, ad c y, List.mem_map.mpr ⟨a, ha, rfl⟩, List.mem_map.mpr ⟨b, hb, rfl⟩, List.mem_map.mpr ⟨c, hc, rfl⟩, r, u, w, hr, hu, hw, h1, ?_, ?_⟩
    · have : r = 1 - u - w := by grind
      subst this
      unfold ad
      grind
    · have : r = 1 - u - w := by grind
      subst this
      unfold ad
      grind
  refine ⟨fun k => ?_, key⟩
  have := key (y := Hl.neg y) k
  have e : ∀ x : P, ad (ad x y) (Hl.neg y) = x := fun x => by unfold ad Hl.neg; apply Prod.ext <;> grind
  rw [List.map_map, show ((fun x => ad x (Hl.neg y)) ∘ fun x => ad x y) = id from funext fun x => e x, List.map_id, e] at this
  exact this
/-! half planes of a shape -/
def hv (h : List P) : List (P × Rat) :=
  if 2 < h.length then (sd h).map fun e => (nrm e, al e.1 (nrm e)) else
    let d : P := if h.length = 1 then (1, 0) else vc (g h 0) (g h 1)
    [d, ng d, (-d.2, d.1), (d.2, -d.1)].map fun u => (u, mx h u)
theorem al_nrm (q : P) (e : P × P) : al q (nrm e) - al e.1 (nrm e) = -cr e.1 e.2 q := by unfold al nrm cr; grind
theorem hv_mx (H : Hu S h) {u : P × Rat} (hu : u ∈ hv h) : u.2 = mx h u.1 := by
  unfold hv at hu
  split at hu
  · obtain ⟨e, he, rfl⟩ := List.mem_map.mp hu
    refine Mx.eq ⟨fun x hx => ?_, e.1, (mem_sd he).1, rfl⟩
    obtain ⟨k, ek⟩ := sd_cy he
    have s := H.sp k x (H.sub x hx)
    have a := al_nrm x e
    rw [ek] at a ⊢
    grind
  · obtain ⟨d, hd, rfl⟩ := List.mem_map.mp hu
    rfl
theorem seg_c {a b q : P} {t : Rat} (h : al q (-(vc a b).2, (vc a b).1) = al a (-(vc a b).2, (vc a b).1)) (et : t * nn (vc a b) = al q (vc a b) - al a (vc a b)) : nn (vc a b) * (q.1 - ((1 - t) * a.1 + t * b.1)) = 0 ∧ nn (vc a b) * (q.2 - ((1 - t) * a.2 + t * b.2)) = 0 := by
  unfold al nn vc at *
  dsimp only at *
  constructor <;> grind
theorem hv_iff (H : Hu S h) : Cv h q ↔ ∀ u ∈ hv h, al q u.1 ≤ u.2 := by
  constructor
  · intro k u hu
    rw [hv_mx H hu]
    exact cv_al k (mx_ok H.ne).1
  · intro k
    have l0 := List.length_pos_iff.mpr H.ne
    by_cases c : 2 < h.length
    · rw [← has_cv H]
      unfold Hl.Has
      rw [if_neg (by omega), if_neg (by omega)]
      intro i hi
      have a := k (nrm (cy h i, cy h (i + 1)), al (cy h i) (nrm (cy h i, cy h (i + 1)))) (by
        unfold hv
        rw [if_pos c]
        exact List.mem_map.mpr ⟨_, cy_sd H.ne i, rfl⟩)
      have b := al_nrm q (cy h i, cy h (i + 1))
      dsimp only at a b
      grind
    · unfold hv at k
      rw [if_neg c] at k
      by_cases c1 : h.length = 1
      · rw [if_pos c1] at k
        simp only [List.map_cons, List.map_nil, List.forall_mem_cons] at k
        obtain ⟨k1, k2, k3, k4, _⟩ := k
        have em : ∀ d, mx h d = al (g h 0) d := fun d => (Mx.eq ⟨fun x hx => by rw [H.one c1 x (H.sub x hx)]; exact Rat.le_refl, g h 0, g_mem l0, rfl⟩).symm
        rw [em] at k1 k2 k3 k4
        have e : q = g h 0 := by
          unfold al ng at *
          apply Prod.ext <;> grind
        rw [e]
        exact cv_self (g_mem l0)
      · have l2 : h.length = 2 := by omega
        rw [if_neg c1] at k
        simp only [List.map_cons, List.map_nil, List.forall_mem_cons] at k
        obtain ⟨k1, k2, k3, k4, _⟩ := k
        have m0 := g_mem l0
        have m1 : g h 1 ∈ h := g_mem (by omega)
        have two : ∀ x ∈ h, x = g h 0 ∨ x = g h 1 := fun x hx => by
          obtain ⟨i, hi, rfl⟩ := mem_g hx
          have : i = 0 ∨ i = 1 := by omega
          rcases this with rfl | rfl
          · exact .inl rfl
          · exact .inr rfl
        have n01 : g h 0 ≠ g h 1 := fun e => by have := nd_g H.nd l0 (by omega) e; omega
        generalize g h 0 = a at *
        generalize g h 1 = b at *
        have hd : vc a b ≠ (0, 0) := fun e => n01 (by
          have z1 := congrArg Prod.fst e
          have z2 := congrArg Prod.snd e
          unfold vc at z1 z2
          apply Prod.ext <;> grind)
        have np := nn_pos hd
        have e1 : al b (vc a b) - al a (vc a b) = nn (vc a b) := by unfold al vc nn; grind
        have x1 : mx h (vc a b) = al b (vc a b) := (Mx.eq ⟨fun x hx => by
          rcases two x hx with rfl | rfl
          · grind
          · exact Rat.le_refl, b, m1, rfl⟩).symm
        have x2 : mx h (ng (vc a b)) = al a (ng (vc a b)) := (Mx.eq ⟨fun x hx => by
          rcases two x hx with rfl | rfl
          · exact Rat.le_refl
          · rw [al_ng, al_ng]; grind, a, m0, rfl⟩).symm
        have pe : ∀ d : P, al b d = al a d → mx h d = al a d := fun d hd' => (Mx.eq ⟨fun x hx => by
          rcases two x hx with rfl | rfl
          · exact Rat.le_refl
          · rw [hd']; exact Rat.le_refl, a, m0, rfl⟩).symm
        rw [x1] at k1
        rw [x2, al_ng, al_ng] at k2
        rw [pe _ (by unfold al vc; grind)] at k3 k4
        have et : (al q (vc a b) - al a (vc a b)) / nn (vc a b) * nn (vc a b) = al q (vc a b) - al a (vc a b) := by grind
        generalize (al q (vc a b) - al a (vc a b)) / nn (vc a b) = t at et
        have t0 : 0 ≤ t := nn_of_mul np (by rw [et]; grind)
        have t1 : 0 ≤ 1 - t := nn_of_mul np (by rw [show (1 - t) * nn (vc a b) = nn (vc a b) - t * nn (vc a b) by grind, et]; grind)
        have z : nn (vc a b) ≠ 0 := by grind
        have h3 : al q (-(vc a b).2, (vc a b).1) = al a (-(vc a b).2, (vc a b).1) := by
          have o : ∀ x : P, al x ((vc a b).2, -(vc a b).1) = -al x (-(vc a b).2, (vc a b).1) := fun x => by unfold al; grind
          rw [o, o] at k4
          grind
        obtain ⟨e2, e3⟩ := seg_c h3 et
        have j1 := (Rat.mul_eq_zero.mp e2).resolve_left z
        have j2 := (Rat.mul_eq_zero.mp e3).resolve_left z
        exact ⟨a, b, a, m0, m1, m0, 1 - t, t, 0, t1, t0, by decide, by grind, by grind, by grind⟩
/-- what is not within is parted from it -/
theorem sep (H : Hu S h) (k : ¬ Cv h q) : ∃ n, mx h n < al q n := by
  apply Classical.byContradiction
  intro hn
  refine k ((hv_iff H).mpr fun u hu => ?_)
  rw [hv_mx H hu]
  have : ¬ (mx h u.1 < al q u.1) := fun c => hn ⟨_, c⟩
  grind
end
end LawS

/-! what a half plane leaves of a shape: plain mathematics -/
namespace LawS
open Tw L2 LawP Hl
def ab (u : P × Rat) (q : P) : Rat := al q u.1 - u.2
def xp (u : P × Rat) (e : P × P) : P := (e.1.1 + ab u e.1 / (ab u e.1 - ab u e.2) * (e.2.1 - e.1.1), e.1.2 + ab u e.1 / (ab u e.1 - ab u e.2) * (e.2.2 - e.1.2))
def Chg (u : P × Rat) (e : P × P) : Prop := (ab u e.1 < 0 ∧ 0 < ab u e.2) ∨ (0 < ab u e.1 ∧ ab u e.2 < 0)
instance (u : P × Rat) (e : P × P) : Decidable (Chg u e) := inferInstanceAs (Decidable (_ ∨ _))
def cutP (h : List P) (u : P × Rat) : List P := h.filter (fun p => !decide (0 < ab u p)) ++ (sd h).filterMap fun e => if Chg u e then some (xp u e) else none
section
variable {S h : List P} {u : P × Rat} {q z : P}
theorem pt_t {u : P × Rat} {a b : P} {t : Rat} : ab u (a.1 + t * (b.1 - a.1), a.2 + t * (b.2 - a.2)) = ab u a + t * (ab u b - ab u a) := by unfold ab al; grind
theorem xp_z {e : P × P} (h : Chg u e) : ab u (xp u e) = 0 := by
  have d : ab u e.1 - ab u e.2 ≠ 0 := by unfold Chg at h; grind
  unfold xp
  rw [pt_t]
  have : ab u e.1 / (ab u e.1 - ab u e.2) * (ab u e.1 - ab u e.2) = ab u e.1 := by grind
  grind
theorem xp_cv {X : List P} {e : P × P} (h : Chg u e) (h1 : e.1 ∈ X) (h2 : e.2 ∈ X) : Cv X (xp u e) := by
  have d : ab u e.1 - ab u e.2 ≠ 0 := by unfold Chg at h; grind
  have et : ab u e.1 / (ab u e.1 - ab u e.2) * (ab u e.1 - ab u e.2) = ab u e.1 := by grind
  unfold xp
  generalize ab u e.1 / (ab u e.1 - ab u e.2) = t at *
  have t01 : 0 ≤ t ∧ 0 ≤ 1 - t := by
    unfold Chg at h
    rcases h with ⟨a, b⟩ | ⟨a, b⟩
    · refine ⟨nn_of_mul (c := ab u e.2 - ab u e.1) (by grind) (by grind), nn_of_mul (c := ab u e.2 - ab u e.1) (by grind) (by grind)⟩
    · refine ⟨nn_of_mul (c := ab u e.1 - ab u e.2) (by grind) (by rw [et]; grind), nn_of_mul (c := ab u e.1 - ab u e.2) (by grind) (by rw [show (1 - t) * (ab u e.1 - ab u e.2) = (ab u e.1 - ab u e.2) - t * (ab u e.1 - ab u e.2) by grind, et]; grind)⟩
  exact ⟨e.1, e.2, e.1, h1, h2, h1, 1 - t, t, 0, t01.2, t01.1, by decide, by grind, by grind, by grind⟩
theorem mem_cut {x : P} : x ∈ cutP h u ↔ (x ∈ h ∧ ab u x ≤ 0) ∨ ∃ e ∈ sd h, Chg u e ∧ x = xp u e := by
  unfold cutP
  rw [List.mem_append, List.mem_filter, List.mem_filterMap]
  constructor
  · rintro (⟨h1, h2⟩ | ⟨e, he, k⟩)
    · refine .inl ⟨h1, ?_⟩
      have : ¬ (0 < ab u x) := by simpa using h2
      grind
    · split at k
      · rename_i c
        cases k
        exact .inr ⟨e, he, c, rfl⟩
      · cases k
  · rintro (⟨h1, h2⟩ | ⟨e, he, c, rfl⟩)
    · refine .inl ⟨h1, ?_⟩
      have : ¬ (0 < ab u x) := by grind
      simpa using this
    · exact .inr ⟨e, he, if_pos c⟩
theorem cut_sub {x : P} (hx : x ∈ cutP h u) : Cv h x ∧ ab u x ≤ 0 := by
  rcases mem_cut.mp hx with ⟨h1, h2⟩ | ⟨e, he, c, rfl⟩
  · exact ⟨cv_self h1, h2⟩
  · exact ⟨xp_cv c (mem_sd he).1 (mem_sd he).2, by rw [xp_z c]; exact Rat.le_refl⟩
theorem step_tr {Q : Nat → Prop} {i : Nat} : ∀ d, Q i → ¬ Q (i + d) → ∃ k, Q k ∧ ¬ Q (k + 1)
  | 0, h, k => absurd h k
  | d + 1, h, k => by
    by_cases c : Q (i + d)
    · exact ⟨i + d, c, k⟩
    · exact step_tr d h c
theorem cyc_tr (h0 : h ≠ []) {Q : P → Prop} {i j : Nat} (hi : Q (cy h i)) (hj : ¬ Q (cy h j)) : ∃ k, Q (cy h k) ∧ ¬ Q (cy h (k + 1)) := by
  have l0 := List.length_pos_iff.mpr h0
  have per : ∀ m, cy h (j + m * h.length) = cy h j := fun m => by unfold cy; rw [Nat.add_mul_mod_self_right]
  refine step_tr (Q := fun n => Q (cy h n)) (i := i) (j + i * h.length - i) hi ?_
  have : i ≤ i * h.length := Nat.le_mul_of_pos_right _ l0
  rw [show i + (j + i * h.length - i) = j + i * h.length by omega, per]
  exact hj
theorem al_cm (x y : P) : al x y = al y x := by unfold al; grind
/-- where a side is left, the line lies on its one hand -/
theorem hand {U W c : P} {τ : Rat} (hs : 0 ≤ cr U W z) (hc : cr U W c = 0) (ez : vc c z = sc τ (u.1.2, -u.1.1)) : 0 ≤ τ * (ab u U - ab u W) := by
  have e : cr U W z = cr U W c + τ * (ab u U - ab u W) := by
    have z1 := congrArg Prod.fst ez
    have z2 := congrArg Prod.snd ez
    unfold vc sc at z1 z2
    unfold cr ab al
    dsimp only at z1 z2
    have a1 : z.1 = c.1 + τ * u.1.2 := by grind
    have a2 : z.2 = c.2 + τ * -u.1.1 := by grind
    rw [a1, a2]
    grind
  grind
theorem side_pt {e : P × P} (he : e ∈ sd h) (h1 : 0 < ab u e.1) (h2 : ab u e.2 ≤ 0) : ∃ c ∈ cutP h u, ab u c = 0 ∧ cr e.1 e.2 c = 0 := by
  by_cases z : ab u e.2 = 0
  · exact ⟨e.2, mem_cut.mpr (.inl ⟨(mem_sd he).2, h2⟩), z, cr_abb _ _⟩
  · have c : Chg u e := .inr ⟨h1, by grind⟩
    refine ⟨_, mem_cut.mpr (.inr ⟨e, he, c, rfl⟩), xp_z c, ?_⟩
    unfold xp cr
    grind
theorem side_pt' {e : P × P} (he : e ∈ sd h) (h1 : ab u e.1 ≤ 0) (h2 : 0 < ab u e.2) : ∃ c ∈ cutP h u, ab u c = 0 ∧ cr e.1 e.2 c = 0 := by
  by_cases z : ab u e.1 = 0
  · exact ⟨e.1, mem_cut.mpr (.inl ⟨(mem_sd he).1, h1⟩), z, cr_aba _ _⟩
  · have c : Chg u e := .inl ⟨by grind, h2⟩
    refine ⟨_, mem_cut.mpr (.inr ⟨e, he, c, rfl⟩), xp_z c, ?_⟩
    unfold xp cr
    grind
theorem cut_line (H : Hu S h) {x y : P} (hx : x ∈ h) (hy : y ∈ h) (fx : ab u x < 0) (fy : 0 < ab u y) (hz : Cv h z) (fz : ab u z = 0) : Cv (cutP h u) z := by
  obtain ⟨i, hi, ex⟩ := mem_g hx
  obtain ⟨j, hj, ey⟩ := mem_g hy
  rw [← cy_lt hi] at ex
  rw [← cy_lt hj] at ey
  have n0 : u.1 ≠ (0, 0) := fun e => by
    unfold ab al at fx fy
    rw [e] at fx fy
    grind
  obtain ⟨k, k1, k2⟩ := cyc_tr H.ne (Q := fun p => 0 < ab u p) (i := j) (j := i) (by rw [← ey]; exact fy) (by rw [← ex]; grind)
  obtain ⟨m, m1, m2⟩ := cyc_tr H.ne (Q := fun p => ¬ (0 < ab u p)) (i := i) (j := j) (by rw [← ex]; grind) (by rw [← ey]; exact fun q => q fy)
  have m2 : 0 < ab u (cy h (m + 1)) := Classical.byContradiction m2
  obtain ⟨c, hc, c1, c2⟩ := side_pt (cy_sd H.ne k) k1 (by grind)
  obtain ⟨c', hc', c1', c2'⟩ := side_pt' (cy_sd H.ne m) (by grind) m2
  have lin : ∀ c : P, ab u c = 0 → ∃ τ, vc c z = sc τ (u.1.2, -u.1.1) := fun c hc => perp n0 (by rw [al_cm, al_sub]; unfold ab at hc fz; grind)
  obtain ⟨τ, et⟩ := lin c c1
  obtain ⟨τ', et'⟩ := lin c' c1'
  have a := hand (u := u) (hz.half fun x hx => H.sp k x (H.sub x hx)) c2 et
  have b := hand (u := u) (hz.half fun x hx => H.sp m x (H.sub x hx)) c2' et'
  have t0 : 0 ≤ τ := nn_of_mul (c := ab u (cy h k) - ab u (cy h (k + 1))) (by grind) a
  have t0' : 0 ≤ -τ' := nn_of_mul (c := ab u (cy h (m + 1)) - ab u (cy h m)) (by grind) (by grind)
  have z1 := congrArg Prod.fst et
  have z2 := congrArg Prod.snd et
  have w1 := congrArg Prod.fst et'
  have w2 := congrArg Prod.snd et'
  unfold vc sc at z1 z2 w1 w2
  dsimp only at z1 z2 w1 w2
  by_cases tz : τ - τ' = 0
  · have : z = c := by
      have h0 : τ = 0 := by grind
      rw [h0] at z1 z2
      apply Prod.ext <;> grind
    rw [this]
    exact cv_self hc
  · have e1 : τ / (τ - τ') * (τ - τ') = τ := by grind
    generalize τ / (τ - τ') = s at e1
    have hp : 0 < τ - τ' := by grind
    have s0 : 0 ≤ s := nn_of_mul hp (by rw [e1]; exact t0)
    have s1 : 0 ≤ 1 - s := nn_of_mul hp (by rw [show (1 - s) * (τ - τ') = (τ - τ') - s * (τ - τ') by grind, e1]; grind)
    refine ⟨c, c', c, hc, hc', hc, 1 - s, s, 0, s1, s0, by decide, by grind, ?_, ?_⟩
    · have : c'.1 - c.1 = (τ - τ') * u.1.2 := by grind
      have : s * (c'.1 - c.1) = τ * u.1.2 := by rw [this, ← Rat.mul_assoc, e1]
      grind
    · have : c'.2 - c.2 = (τ - τ') * -u.1.1 := by grind
      have : s * (c'.2 - c.2) = τ * -u.1.1 := by rw [this, ← Rat.mul_assoc, e1]
      grind
theorem most_r {f k : P → Rat} : ∀ {l : List P}, (∃ y ∈ l, 0 < f y) → ∃ y ∈ l, 0 < f y ∧ ∀ x ∈ l, 0 < f x → k x * f y ≤ k y * f x
  | [], h => by obtain ⟨y, hy, _⟩ := h; cases hy
  | x :: l, h => by
    by_cases c : ∃ y ∈ l, 0 < f y
    · obtain ⟨y, hy, h1, h2⟩ := most_r (k := k) c
      by_cases cx' : 0 < f x ∧ k y * f x ≤ k x * f y
      · refine ⟨x, by simp, cx'.1, fun w hw hfw => ?_⟩
        rcases List.mem_cons.mp hw with rfl | hw
        · exact Rat.le_refl
        · have a := h2 w hw hfw
          have m1 := Rat.mul_nonneg (Rat.le_of_lt cx'.1) (show 0 ≤ k y * f w - k w * f y by grind)
          have m2 := Rat.mul_nonneg (Rat.le_of_lt hfw) (show 0 ≤ k x * f y - k y * f x by grind)
          have : 0 ≤ (k x * f w - k w * f x) * f y := by grind
          have := nn_of_mul h1 this
          grind
      · refine ⟨y, List.mem_cons_of_mem _ hy, h1, fun w hw hfw => ?_⟩
        rcases List.mem_cons.mp hw with rfl | hw
        · have : ¬ (k y * f w ≤ k w * f y) := fun q => cx' ⟨hfw, q⟩
          grind
        · exact h2 w hw hfw
    · obtain ⟨y, hy, hf⟩ := h
      rcases List.mem_cons.mp hy with rfl | hy
      · refine ⟨y, by simp, hf, fun w hw hfw => ?_⟩
        rcases List.mem_cons.mp hw with rfl | hw
        · exact Rat.le_refl
        · exact absurd ⟨w, hw, hfw⟩ c
      · exact absurd ⟨y, hy, hf⟩ c
theorem cut_nil (hc : cutP h u = []) (hq : Cv h q) : 0 < ab u q := by
  have k : ∀ x ∈ h, 0 < ab u x := fun x hx => by
    by_cases c : 0 < ab u x
    · exact c
    · have : x ∈ cutP h u := mem_cut.mpr (.inl ⟨hx, by grind⟩)
      rw [hc] at this
      cases this
  obtain ⟨a, b, c, ha, hb, hc, r, s, t, hr, hs, ht, h1, h2, h3⟩ := hq
  have e := al_lin3 u.1 a b c q r s t h2 h3
  have := w_sum h1 (w_pos hr (k a ha)) (w_pos hs (k b hb)) (w_pos ht (k c hc))
  have er : r = 1 - s - t := by grind
  subst er
  unfold ab at *
  rw [e]
  grind
theorem cut_cv (H : Hu S h) (hn : cutP h u ≠ []) : Cv (cutP h u) q ↔ Cv h q ∧ ab u q ≤ 0 := by
  constructor
  · intro k
    refine ⟨cv_trans H.ne (fun x hx => (cut_sub hx).1) k, ?_⟩
    have := cv_al (d := u.1) (m := u.2) k fun x hx => by have := (cut_sub hx).2; unfold ab at this; grind
    unfold ab
    grind
  · rintro ⟨hq, fq⟩
    apply Classical.byContradiction
    intro hno
    have K := HU_ok hn
    obtain ⟨n, hM⟩ := sep (q := q) K (fun k => hno ((hu_iff K).mp k))
    rw [mx_hu K] at hM
    generalize hMM : mx (cutP h u) n = M at hM
    have le : ∀ x, Cv (cutP h u) x → al x n ≤ M := fun x hx => by
      rw [← hMM]
      exact cv_al hx (mx_ok hn).1
    by_cases cp : ∃ y ∈ h, 0 < ab u y
    · obtain ⟨y, hy, fy, my⟩ := most_r (k := fun x => al x n - M) cp
      have el : (al y n - M) / ab u y * ab u y = al y n - M := by grind
      generalize (al y n - M) / ab u y = L at el
      have all : ∀ x ∈ h, al x n - M ≤ L * ab u x := fun x hx => by
        by_cases c : 0 < ab u x
        · have a := my x hx c
          have : 0 ≤ (L * ab u x - (al x n - M)) * ab u y := by
            rw [show (L * ab u x - (al x n - M)) * ab u y = L * ab u y * ab u x - (al x n - M) * ab u y by grind, el]
            grind
          have := nn_of_mul fy this
          grind
        · by_cases c0 : ab u x = 0
          · rw [c0]
            have := le x (cv_self (mem_cut.mpr (.inl ⟨hx, by grind⟩)))
            grind
          · have fx : ab u x < 0 := by grind
            have ch : Chg u (x, y) := .inl ⟨fx, fy⟩
            have lz := le _ (cut_line H hx hy fx fy (xp_cv ch hx hy) (xp_z ch))
            have d : 0 < ab u y - ab u x := by grind
            have et : ab u x / (ab u x - ab u y) * (ab u x - ab u y) = ab u x := by grind
            have ex : al (xp u (x, y)) n = al x n + ab u x / (ab u x - ab u y) * (al y n - al x n) := by unfold xp al; grind
            rw [ex] at lz
            generalize ab u x / (ab u x - ab u y) = t at *
            have : 0 ≤ (M - (al x n + t * (al y n - al x n))) * (ab u y - ab u x) := Rat.mul_nonneg (by grind) (Rat.le_of_lt d)
            have e2 : (M - (al x n + t * (al y n - al x n))) * (ab u y - ab u x) = (M - al x n) * (ab u y - ab u x) + (al y n - al x n) * (t * (ab u x - ab u y)) := by grind
            rw [e2, et] at this
            have : 0 ≤ (L * ab u x - (al x n - M)) * ab u y := by
              rw [show (L * ab u x - (al x n - M)) * ab u y = L * ab u y * ab u x - (al x n - M) * ab u y by grind, el]
              grind
            have := nn_of_mul fy this
            grind
      by_cases hL : 0 ≤ L
      · have key := cv_al (d := (n.1 - L * u.1.1, n.2 - L * u.1.2)) (m := M - L * u.2) hq fun x hx => by
          have := all x hx
          unfold ab al at *
          grind
        have e : al q (n.1 - L * u.1.1, n.2 - L * u.1.2) = al q n - L * al q u.1 := by unfold al; grind
        rw [e] at key
        have := Rat.mul_nonneg hL (show 0 ≤ -ab u q by grind)
        unfold ab at *
        grind
      · have key := cv_al (d := n) (m := M) hq fun x hx => by
          by_cases c : 0 < ab u x
          · have a := all x hx
            have := Rat.mul_nonneg (show 0 ≤ -L by grind) (Rat.le_of_lt c)
            grind
          · exact le x (cv_self (mem_cut.mpr (.inl ⟨hx, by grind⟩)))
        grind
    · refine hno (hq.mono fun x hx => mem_cut.mpr (.inl ⟨hx, ?_⟩))
      have : ¬ (0 < ab u x) := fun c => cp ⟨x, hx, c⟩
      grind
end
end LawS

namespace LawS
open Tw L2 LawP Hl
noncomputable def F_above : Fs :=
  (sRet (eOwn sem_minus [] (aCons (eOwn sem_along [] (aCons (eVar 1) (aCons (eSl gSl (eVar 0) oNone (oSome (eLit (.int 2)))) aNil))) (aCons (eBin gIx (eVar 0) (eLit (.int 2))) aNil))))
noncomputable def sem_above : Sem' := semOf 2 [] F_above
noncomputable def F_between : Fs :=
  (sRet (eCall gTupOf (aCons (eComp [3] (iTupl (eTup (aCons (eLit (.int 0)) (aCons (eLit (.int 1)) aNil)))) (tgN 3) tYesT (eOwn sem_plus [] (aCons (eBin gIx (eVar 0) (eVar 3)) (aCons (eOwn sem_times [] (aCons (eVar 2) (aCons (eOwn sem_minus [] (aCons (eBin gIx (eVar 1) (eVar 3)) (aCons (eBin gIx (eVar 0) (eVar 3)) aNil))) aNil))) aNil)))) aNil)))
noncomputable def sem_between : Sem' := semOf 4 [] F_between
noncomputable def F_cut : Fs :=
  (sSeq (sAsg 2 (eComp [7] (iAny (eVar 0)) (tgN 7) (tNotT (tTru (eOwn sem_less [] (aCons (eLit (.tup [.int 0, .int 1])) (aCons (eOwn sem_above [] (aCons (eVar 1) (aCons (eVar 7) aNil))) aNil))))) (eVar 7))) (sSeq (sFor (iAny (eOwn sem_sides [] (aCons (eVar 0) aNil))) (tgSeq 2 (tgCons (tgN 3) (tgCons (tgN 4) tgNil))) (sSeq (sPar 5 6 (aCons (eOwn sem_above [] (aCons (eVar 1) (aCons (eVar 3) aNil))) (aCons (eOwn sem_above [] (aCons (eVar 1) (aCons (eVar 4) aNil))) aNil))) (sSeq (sIf (tOrT (tAndT (tTru (eOwn sem_less [] (aCons (eVar 5) (aCons (eLit (.tup [.int 0, .int 1])) aNil)))) (tTru (eOwn sem_less [] (aCons (eLit (.tup [.int 0, .int 1])) (aCons (eVar 6) aNil))))) (tAndT (tTru (eOwn sem_less [] (aCons (eLit (.tup [.int 0, .int 1])) (aCons (eVar 5) aNil)))) (tTru (eOwn sem_less [] (aCons (eVar 6) (aCons (eLit (.tup [.int 0, .int 1])) aNil)))))) (sSeq (sDrop (eMut 2 isL gApp (aCons (eOwn sem_between [] (aCons (eVar 3) (aCons (eVar 4) (aCons (eOwn sem_over [] (aCons (eVar 5) (aCons (eOwn sem_minus [] (aCons (eVar 5) (aCons (eVar 6) aNil))) aNil))) aNil)))) aNil))) sNx) sNx) (sKill 3 (sKill 4 (sKill 5 (sKill 6 sNx))))))) (sRet (eIf (tTru (eVar 2)) (eOwn sem_hull [] (aCons (eVar 2) aNil)) (eLit .non)))))
noncomputable def sem_cut : Sem' := semOf 8 [] F_cut
noncomputable def F_half_of : Fs :=
  (sSeq (sPar 2 3 (aCons (eOwn sem_minus [] (aCons (eBin gIx (eVar 1) (eLit (.int 1))) (aCons (eBin gIx (eVar 0) (eLit (.int 1))) aNil))) (aCons (eOwn sem_minus [] (aCons (eBin gIx (eVar 0) (eLit (.int 0))) (aCons (eBin gIx (eVar 1) (eLit (.int 0))) aNil))) aNil))) (sRet (eTup (aCons (eVar 2) (aCons (eVar 3) (aCons (eOwn sem_along [] (aCons (eVar 0) (aCons (eTup (aCons (eVar 2) (aCons (eVar 3) aNil))) aNil))) aNil))))))
noncomputable def sem_half_of : Sem' := semOf 4 [] F_half_of
noncomputable def F_halves_of : Fs :=
  (sSeq (sIf (tOf (eBin gGt (eCall gLen (aCons (eVar 0) aNil)) (eLit (.int 2)))) (sRet (eComp [1, 2] (iAny (eOwn sem_sides [] (aCons (eVar 0) aNil))) (tgSeq 2 (tgCons (tgN 1) (tgCons (tgN 2) tgNil))) tYesT (eOwn sem_half_of [] (aCons (eVar 1) (aCons (eVar 2) aNil))))) sNx) (sSeq (sPar 1 2 (aCons (eBin gIx (eVar 0) (eLit (.int 0))) (aCons (eBin gIx (eVar 0) (eUn gNeg (eLit (.int 1)))) aNil))) (sSeq (sPar 3 4 (aCons (eOwn sem_minus [] (aCons (eBin gIx (eVar 2) (eLit (.int 0))) (aCons (eBin gIx (eVar 1) (eLit (.int 0))) aNil))) (aCons (eOwn sem_minus [] (aCons (eBin gIx (eVar 2) (eLit (.int 1))) (aCons (eBin gIx (eVar 1) (eLit (.int 1))) aNil))) aNil))) (sSeq (sIf (tOf (eBin gEq (eCall gLen (aCons (eVar 0) aNil)) (eLit (.int 1)))) (sSeq (sPar 3 4 (aCons (eTup (aCons (eLit (.int 1)) (aCons (eLit (.int 1)) aNil))) (aCons (eLit (.tup [.int 0, .int 1])) aNil))) sNx) sNx) (sSeq (sAsg 5 (eLst aNil)) (sSeq (sFor (iTupl (eTup (aCons (eTup (aCons (eVar 3) (aCons (eVar 4) aNil))) (aCons (eTup (aCons (eOwn sem_negative [] (aCons (eVar 3) aNil)) (aCons (eOwn sem_negative [] (aCons (eVar 4) aNil)) aNil))) (aCons (eTup (aCons (eOwn sem_negative [] (aCons (eVar 4) aNil)) (aCons (eVar 3) aNil))) (aCons (eTup (aCons (eVar 4) (aCons (eOwn sem_negative [] (aCons (eVar 3) aNil)) aNil))) aNil)))))) (tgN 6) (sSeq (sDrop (eMut 5 isL gApp (aCons (eBin gAdd (eVar 6) (eTup (aCons (eOwn sem_reach [] (aCons (eVar 0) (aCons (eVar 6) aNil))) aNil))) aNil))) (sKill 6 sNx))) (sRet (eVar 5))))))))
noncomputable def sem_halves_of : Sem' := semOf 7 [] F_halves_of
noncomputable def F_left_of_all : Fs :=
  (sSeq (sAsg 1 (eBin gIx (eVar 0) (eLit (.int 0)))) (sSeq (sFor (iAny (eSl gSl (eVar 0) (oSome (eLit (.int 1))) oNone)) (tgN 2) (sSeq (sFor (iAny (eOwn sem_halves_of [] (aCons (eVar 2) aNil))) (tgN 3) (sSeq (sAsg 1 (eIf (tOf (eBin gIs (eVar 1) (eLit .non))) (eLit .non) (eOwn sem_cut [] (aCons (eVar 1) (aCons (eVar 3) aNil))))) sNx)) (sKill 2 (sKill 3 sNx)))) (sRet (eVar 1))))
noncomputable def sem_left_of_all : Sem' := semOf 4 [] F_left_of_all
noncomputable def F_parted : Fs :=
  (sSeq (sAsg 2 (eOwn sem_left_of_all [] (aCons (eLst (aCons (eVar 0) (aCons (eVar 1) aNil))) aNil))) (sSeq (sIf (tOf (eBin gIsNot (eVar 2) (eLit .non))) (sRet (eTup (aCons (eLit (.str "point")) (aCons (eBin gIx (eVar 2) (eLit (.int 0))) aNil)))) sNx) (sSeq (sFor (iAny (eOwn sem_halves_of [] (aCons (eOwn sem_added [] (aCons (eVar 0) (aCons (eOwn sem_turned_round [] (aCons (eVar 1) aNil)) aNil))) aNil))) (tgSeq 3 (tgCons (tgN 3) (tgCons (tgN 4) (tgCons (tgN 5) tgNil)))) (sSeq (sIf (tTru (eOwn sem_less [] (aCons (eVar 5) (aCons (eLit (.tup [.int 0, .int 1])) aNil)))) (sRet (eTup (aCons (eLit (.str "line")) (aCons (eVar 3) (aCons (eVar 4) (aCons (eOwn sem_minus [] (aCons (eOwn sem_reach [] (aCons (eVar 0) (aCons (eTup (aCons (eVar 3) (aCons (eVar 4) aNil))) aNil))) (aCons (eOwn sem_over [] (aCons (eVar 5) (aCons (eTup (aCons (eLit (.int 2)) (aCons (eLit (.int 1)) aNil))) aNil))) aNil))) aNil)))))) sNx) (sKill 3 (sKill 4 (sKill 5 sNx))))) (sRet (eLit .non)))))
noncomputable def sem_parted : Sem' := semOf 6 [] F_parted
noncomputable def F_on_line : Fs :=
  (sRet (eAnd (eOwn sem_has [] (aCons (eOwn sem_hull [] (aCons (eLst (aCons (eVar 0) (aCons (eVar 1) aNil))) aNil)) (aCons (eVar 2) aNil))) (eBin gEq (eOwn sem_turn [] (aCons (eVar 0) (aCons (eVar 1) (aCons (eVar 2) aNil)))) (eLit (.tup [.int 0, .int 1])))))
noncomputable def sem_on_line : Sem' := semOf 3 [] F_on_line
noncomputable def F_stroke : Fs :=
  (sSeq (sIf (tOf (eBin gEq (eCall gLen (aCons (eVar 0) aNil)) (eLit (.int 1)))) (sRet (eLst (aCons (eOwn sem_added [] (aCons (eVar 0) (aCons (eVar 1) aNil))) aNil))) sNx) (sRet (eComp [2] (iR1 (aCons (eBin gSub (eCall gLen (aCons (eVar 0) aNil)) (eLit (.int 1))) aNil)) (tgN 2) tYesT (eOwn sem_added [] (aCons (eOwn sem_hull [] (aCons (eLst (aCons (eBin gIx (eVar 0) (eVar 2)) (aCons (eBin gIx (eVar 0) (eBin gAdd (eVar 2) (eLit (.int 1)))) aNil))) aNil)) (aCons (eVar 1) aNil))))))
noncomputable def sem_stroke : Sem' := semOf 3 [] F_stroke
noncomputable def F_judge_inked : Fs :=
  (sSeq (sAsg 5 (eTup (aCons (eOwn sem_minus [] (aCons (eBin gIx (eVar 2) (eLit (.int 0))) (aCons (eBin gIx (eVar 4) (eLit (.int 0))) aNil))) (aCons (eOwn sem_minus [] (aCons (eBin gIx (eVar 2) (eLit (.int 1))) (aCons (eBin gIx (eVar 4) (eLit (.int 1))) aNil))) aNil)))) (sSeq (sIf (tNotT (tTru (eOwn sem_has [] (aCons (eVar 1) (aCons (eVar 4) aNil))))) (sRet (eLit (.bl false))) sNx) (sSeq (sIf (tOf (eBin gEq (eCall gLen (aCons (eVar 0) aNil)) (eLit (.int 1)))) (sRet (eAnd (eBin gEq (eVar 3) (eLit (.int 0))) (eBin gEq (eBin gIx (eVar 0) (eLit (.int 0))) (eVar 5)))) sNx) (sRet (eAnd (eChain gLe gLt (eLit (.int 0)) (eVar 3) (eBin gSub (eCall gLen (aCons (eVar 0) aNil)) (eLit (.int 1)))) (eOwn sem_on_line [] (aCons (eBin gIx (eVar 0) (eVar 3)) (aCons (eBin gIx (eVar 0) (eBin gAdd (eVar 3) (eLit (.int 1)))) (aCons (eVar 5) aNil)))))))))
noncomputable def sem_judge_inked : Sem' := semOf 6 [] F_judge_inked
noncomputable def F__law_moved : Fs :=
  (sRet (eComp [2] (iAny (eVar 0)) (tgN 2) tYesT (eTup (aCons (eOwn sem__law_plus [] (aCons (eBin gIx (eVar 2) (eLit (.int 0))) (aCons (eBin gIx (eVar 1) (eLit (.int 0))) aNil))) (aCons (eOwn sem__law_plus [] (aCons (eBin gIx (eVar 2) (eLit (.int 1))) (aCons (eBin gIx (eVar 1) (eLit (.int 1))) aNil))) aNil)))))
noncomputable def sem__law_moved : Sem' := semOf 3 [] F__law_moved
def hT (u : P × Rat) : T := .tup [qT u.1.1, qT u.1.2, qT u.2]
def oT : Option (List P) → T
  | none => .non
  | some h => pL h
section
variable {S h : List P} {u : P × Rat} {a b p : P} {n m : Nat}
theorem sz_ab (hu : Zp n u.1) (hc : Sz m u.2) (hp : Zp n p) : Sz (4 * n + m + 2) (ab u p) := (sz_sub (sz_al hp hu) hc).mono (by omega)
theorem above_spec (hu : Zp n u.1) (hc : Sz m u.2) (hp : Zp n p) (hn : 4 * n + m + 2 ≤ 9000) : sem_above [hT u, pT p] = some (qT (ab u p), []) := by
  have e1 : gSl (hT u) none (some 2) = some (pT u.1) := by
    show some (T.tup (cutT [qT u.1.1, qT u.1.2, qT u.2] none (some ((2 : Nat) : Int)))) = _
    rw [cut_to]
    rfl
  have e2 : gIx (hT u) (.int 2) = some (qT u.2) := atI_2
  refine wc_eq ?_
  unfold sem_above F_above
  dsimp? [Int.cast_ofNat_Int, Int.natCast_one, Int.natCast_zero, ixP0, ixP1, ixQ0, ixQ1, r_eqP, r_neP, r_eqQ, r_neQ, r_eqL, r_neL, r_inP, r_ninP, lenP, slTo, slFrom, slLast, slLastN, revP, isLP, ↓sAP, ↓sLP, qT_0, e1, along_spec hp hu (by omega), e2, minus_spec (sz_al hp hu) hc (by omega)]
  rfl
theorem between_spec {t : Rat} (ha : Zp n a) (hb : Zp n b) (ht : Sz m t) (hn : 3 * n + m + 4 ≤ 9000) : sem_between [pT a, pT b, qT t] = some (pT (a.1 + t * (b.1 - a.1), a.2 + t * (b.2 - a.2)), []) := by
  refine wc_eq ?_
  unfold sem_between F_between
  dsimp? [Int.cast_ofNat_Int, Int.natCast_one, Int.natCast_zero, ixP0, ixP1, ixQ0, ixQ1, r_eqP, r_neP, r_eqQ, r_neQ, r_eqL, r_neL, r_inP, r_ninP, lenP, slTo, slFrom, slLast, slLastN, revP, isLP, ↓sAP, ↓sLP, qT_0]
  rw [show [T.int 0, T.int 1] = rngT 0 2 from rfl]
  have s1 := sz_sub hb.1 ha.1
  have s2 := sz_sub hb.2 ha.2
  refine wco_rng (fun k => if k = 0 then qT (a.1 + t * (b.1 - a.1)) else qT (a.2 + t * (b.2 - a.2))) (by decide) (fun k hk => ?_) ?_
  · rw [Int.zero_add]
    have hk' : k = 0 ∨ k = 1 := by omega
    rcases hk' with rfl | rfl
    · dsimp? [Int.cast_ofNat_Int, Int.natCast_one, Int.natCast_zero, ixP0, ixP1, ixQ0, ixQ1, r_eqP, r_neP, r_eqQ, r_neQ, r_eqL, r_neL, r_inP, r_ninP, lenP, slTo, slFrom, slLast, slLastN, revP, isLP, ↓sAP, ↓sLP, qT_0, minus_spec hb.1 ha.1 (by omega), times_spec ht s1 (by omega), plus_spec ha.1 (sz_mul ht s1) (by omega)]
    · dsimp? [Int.cast_ofNat_Int, Int.natCast_one, Int.natCast_zero, ixP0, ixP1, ixQ0, ixQ1, r_eqP, r_neP, r_eqQ, r_neQ, r_eqL, r_neL, r_inP, r_ninP, lenP, slTo, slFrom, slLast, slLastN, revP, isLP, ↓sAP, ↓sLP, qT_0, minus_spec hb.2 ha.2 (by omega), times_spec ht s2 (by omega), plus_spec ha.2 (sz_mul ht s2) (by omega)]
      rfl
  · have e : gTupOf [.lst ((List.range 2).map fun k => if k = 0 then qT (a.1 + t * (b.1 - a.1)) else qT (a.2 + t * (b.2 - a.2)))] = some (pT (a.1 + t * (b.1 - a.1), a.2 + t * (b.2 - a.2))) := rfl
    dsimp? [Int.cast_ofNat_Int, Int.natCast_one, Int.natCast_zero, ixP0, ixP1, ixQ0, ixQ1, r_eqP, r_neP, r_eqQ, r_neQ, r_eqL, r_neL, r_inP, r_ninP, lenP, slTo, slFrom, slLast, slLastN, revP, isLP, ↓sAP, ↓sLP, qT_0, e]
theorem sz_xp {e : P × P} (hu : Zp n u.1) (hc : Sz m u.2) (h1 : Zp n e.1) (h2 : Zp n e.2) (c : Chg u e) : Zp (15 * n + 3 * m + 9) (xp u e) := by
  have d : ab u e.1 - ab u e.2 ≠ 0 := by unfold Chg at c; grind
  have f1 := sz_ab hu hc h1
  have f2 := sz_ab hu hc h2
  have t := sz_div f1 (sz_sub f1 f2) d
  exact ⟨(sz_add h1.1 (sz_mul t (sz_sub h2.1 h1.1))).mono (by omega), (sz_add h1.2 (sz_mul t (sz_sub h2.2 h1.2))).mono (by omega)⟩
def xf (u : P × Rat) (e : P × P) : Option P := if Chg u e then some (xp u e) else none
theorem tk_fm {xs : List (P × P)} {i : Nat} (hi : i < xs.length) : (xs.take (i + 1)).filterMap (xf u) = (xs.take i).filterMap (xf u) ++ (xf u xs[i]).toList := by
  rw [List.take_add_one, List.getElem?_eq_getElem hi, List.filterMap_append]
  cases h : xf u xs[i] <;> simp [h]
theorem fm_filter {Q : P → Prop} [DecidablePred Q] : ∀ l : List P, l.filterMap (fun p => if Q p then none else some (pT p)) = (l.filter fun p => !decide (Q p)).map pT
  | [] => rfl
  | x :: l => by
    by_cases c : Q x
    · simp [List.filterMap_cons, List.filter_cons, c, fm_filter l]
    · simp [List.filterMap_cons, List.filter_cons, c, fm_filter l]
theorem cut_spec (hh : h ≠ []) (hl : h.length ≤ 1000) (hz : ∀ p ∈ h, Zp n p) (hu : Zp n u.1) (hc : Sz m u.2) (hn : 120 * n + 24 * m + 200 ≤ 9000) : sem_cut [pL h, hT u] = some (oT (if cutP h u = [] then none else some (HU (cutP h u))), []) := by
  refine wc_eq ?_
  unfold sem_cut F_cut
  dsimp? [Int.cast_ofNat_Int, Int.natCast_one, Int.natCast_zero, ixP0, ixP1, ixQ0, ixQ1, r_eqP, r_neP, r_eqQ, r_neQ, r_eqL, r_neL, r_inP, r_ninP, lenP, slTo, slFrom, slLast, slLastN, revP, isLP, ↓sAP, ↓sLP, qT_0]
  refine wco_fmx (fun p => if 0 < ab u p then none else some (pT p)) (by omega) (fun p hp => ?_) ?_
  · dsimp? [Int.cast_ofNat_Int, Int.natCast_one, Int.natCast_zero, ixP0, ixP1, ixQ0, ixQ1, r_eqP, r_neP, r_eqQ, r_neQ, r_eqL, r_neL, r_inP, r_ninP, lenP, slTo, slFrom, slLast, slLastN, revP, isLP, ↓sAP, ↓sLP, qT_0, above_spec hu hc (hz p hp) (by omega), less_spec (sz_0 (n := 0)) (sz_ab hu hc (hz p hp)) (by omega)]
    refine br_d (fun c => ?_) (fun c => ?_)
    · dsimp? [Int.cast_ofNat_Int, Int.natCast_one, Int.natCast_zero, ixP0, ixP1, ixQ0, ixQ1, r_eqP, r_neP, r_eqQ, r_neQ, r_eqL, r_neL, r_inP, r_ninP, lenP, slTo, slFrom, slLast, slLastN, revP, isLP, ↓sAP, ↓sLP, qT_0]
      exact if_pos c
    · dsimp? [Int.cast_ofNat_Int, Int.natCast_one, Int.natCast_zero, ixP0, ixP1, ixQ0, ixQ1, r_eqP, r_neP, r_eqQ, r_neQ, r_eqL, r_neL, r_inP, r_ninP, lenP, slTo, slFrom, slLast, slLastN, revP, isLP, ↓sAP, ↓sLP, qT_0]
      exact if_neg c
  · have ek : T.lst (h.filterMap fun p => if 0 < ab u p then none else some (pT p)) = pL (h.filter fun p => !decide (0 < ab u p)) := by
      unfold pL
      rw [fm_filter]
    have lF : (h.filter fun p => !decide (0 < ab u p)).length ≤ h.length := List.length_filter_le ..
    dsimp? [Int.cast_ofNat_Int, Int.natCast_one, Int.natCast_zero, ixP0, ixP1, ixQ0, ixQ1, r_eqP, r_neP, r_eqQ, r_neQ, r_eqL, r_neL, r_inP, r_ninP, lenP, slTo, slFrom, slLast, slLastN, revP, isLP, ↓sAP, ↓sLP, qT_0, ek, sides_spec (l := h) (by omega)]
    have ec : cutP h u = (h.filter fun p => !decide (0 < ab u p)) ++ (sd h).filterMap (xf u) := rfl
    rw [ec]
    have zF : ∀ p ∈ h.filter (fun p => !decide (0 < ab u p)), Zp n p := fun p hp => hz p (List.mem_filter.mp hp).1
    generalize (h.filter fun p => !decide (0 < ab u p)) = F at *
    refine wf_map (I := fun i γ => γ = [some (pL h), some (hT u), some (pL (F ++ ((sd h).take i).filterMap (xf u))), none, none, none, none, none]) (by simp) ?_ ?_
    · rintro i γ hi rfl
      have he := List.getElem_mem hi
      have z1 := hz _ (mem_sd he).1
      have z2 := hz _ (mem_sd he).2
      have f1 := sz_ab hu hc z1
      have f2 := sz_ab hu hc z2
      have a1 := above_spec hu hc z1 (by omega)
      have a2 := above_spec hu hc z2 (by omega)
      have z0 := sz_0 (n := 0)
      have l1 := less_spec f1 z0 (by omega)
      have l2 := less_spec z0 f2 (by omega)
      have l3 := less_spec z0 f1 (by omega)
      have l4 := less_spec f2 z0 (by omega)
      have lt : (((sd h).take i).filterMap (xf u)).length ≤ h.length := by
        have a := List.length_filterMap_le (xf u) ((sd h).take i)
        rw [List.length_take, sd_len] at a
        omega
      rw [tk_fm hi]
      generalize hG : F ++ ((sd h).take i).filterMap (xf u) = G at *
      have lG : G.length ≤ 2000 := by rw [← hG, List.length_append]; omega
      have step : Chg u (sd h)[i] → xf u (sd h)[i] = some (xp u (sd h)[i]) := fun c => if_pos c
      have stay : ¬ Chg u (sd h)[i] → xf u (sd h)[i] = none := fun c => if_neg c
      have put : Chg u (sd h)[i] → LawP.sem_over [qT (ab u (sd h)[i].1), qT (ab u (sd h)[i].1 - ab u (sd h)[i].2)] = some (qT (ab u (sd h)[i].1 / (ab u (sd h)[i].1 - ab u (sd h)[i].2)), []) ∧ sem_between [pT (sd h)[i].1, pT (sd h)[i].2, qT (ab u (sd h)[i].1 / (ab u (sd h)[i].1 - ab u (sd h)[i].2))] = some (pT (xp u (sd h)[i]), []) := fun c => by
        have d : ab u (sd h)[i].1 - ab u (sd h)[i].2 ≠ 0 := by unfold Chg at c; grind
        exact ⟨over_spec f1 (sz_sub f1 f2) d (by omega), between_spec z1 z2 (sz_div f1 (sz_sub f1 f2) d) (by omega)⟩
      have ms := minus_spec f1 f2 (by omega)
      have fin : G ++ [xp u (sd h)[i]] = F ++ (((sd h).take i).filterMap (xf u) ++ [xp u (sd h)[i]]) := by rw [← hG, List.append_assoc]
      have fin0 : G = F ++ (((sd h).take i).filterMap (xf u) ++ []) := by rw [← hG, List.append_nil]
      unfold eS
      dsimp? [Int.cast_ofNat_Int, Int.natCast_one, Int.natCast_zero, ixP0, ixP1, ixQ0, ixQ1, r_eqP, r_neP, r_eqQ, r_neQ, r_eqL, r_neL, r_inP, r_ninP, lenP, slTo, slFrom, slLast, slLastN, revP, isLP, ↓sAP, ↓sLP, qT_0, a1, a2, l1]
      refine br_d (fun c1 => ?_) (fun c1 => ?_)
      · dsimp? [Int.cast_ofNat_Int, Int.natCast_one, Int.natCast_zero, ixP0, ixP1, ixQ0, ixQ1, r_eqP, r_neP, r_eqQ, r_neQ, r_eqL, r_neL, r_inP, r_ninP, lenP, slTo, slFrom, slLast, slLastN, revP, isLP, ↓sAP, ↓sLP, qT_0, l2]
        refine br_d (fun c2 => ?_) (fun c2 => ?_)
        · have c : Chg u (sd h)[i] := .inl ⟨c1, c2⟩
          dsimp? [Int.cast_ofNat_Int, Int.natCast_one, Int.natCast_zero, ixP0, ixP1, ixQ0, ixQ1, r_eqP, r_neP, r_eqQ, r_neQ, r_eqL, r_neL, r_inP, r_ninP, lenP, slTo, slFrom, slLast, slLastN, revP, isLP, ↓sAP, ↓sLP, qT_0, ms, (put c).1, (put c).2, appP (l := G) (a := xp u (sd h)[i]) (by omega)]
          rw [step c, fin]
          rfl
        · dsimp? [Int.cast_ofNat_Int, Int.natCast_one, Int.natCast_zero, ixP0, ixP1, ixQ0, ixQ1, r_eqP, r_neP, r_eqQ, r_neQ, r_eqL, r_neL, r_inP, r_ninP, lenP, slTo, slFrom, slLast, slLastN, revP, isLP, ↓sAP, ↓sLP, qT_0, l3]
          have c : ¬ Chg u (sd h)[i] := fun c => by unfold Chg at c; grind
          refine br_d (fun c3 => absurd c3 (by grind)) (fun c3 => ?_)
          dsimp? [Int.cast_ofNat_Int, Int.natCast_one, Int.natCast_zero, ixP0, ixP1, ixQ0, ixQ1, r_eqP, r_neP, r_eqQ, r_neQ, r_eqL, r_neL, r_inP, r_ninP, lenP, slTo, slFrom, slLast, slLastN, revP, isLP, ↓sAP, ↓sLP, qT_0]
          rw [stay c, Option.toList_none, ← fin0]
      · dsimp? [Int.cast_ofNat_Int, Int.natCast_one, Int.natCast_zero, ixP0, ixP1, ixQ0, ixQ1, r_eqP, r_neP, r_eqQ, r_neQ, r_eqL, r_neL, r_inP, r_ninP, lenP, slTo, slFrom, slLast, slLastN, revP, isLP, ↓sAP, ↓sLP, qT_0, l3]
        refine br_d (fun c3 => ?_) (fun c3 => ?_)
        · dsimp? [Int.cast_ofNat_Int, Int.natCast_one, Int.natCast_zero, ixP0, ixP1, ixQ0, ixQ1, r_eqP, r_neP, r_eqQ, r_neQ, r_eqL, r_neL, r_inP, r_ninP, lenP, slTo, slFrom, slLast, slLastN, revP, isLP, ↓sAP, ↓sLP, qT_0, l4]
          refine br_d (fun c4 => ?_) (fun c4 => ?_)
          · have c : Chg u (sd h)[i] := .inr ⟨c3, c4⟩
            dsimp? [Int.cast_ofNat_Int, Int.natCast_one, Int.natCast_zero, ixP0, ixP1, ixQ0, ixQ1, r_eqP, r_neP, r_eqQ, r_neQ, r_eqL, r_neL, r_inP, r_ninP, lenP, slTo, slFrom, slLast, slLastN, revP, isLP, ↓sAP, ↓sLP, qT_0, ms, (put c).1, (put c).2, appP (l := G) (a := xp u (sd h)[i]) (by omega)]
            rw [step c, fin]
            rfl
          · have c : ¬ Chg u (sd h)[i] := fun c => by unfold Chg at c; grind
            dsimp? [Int.cast_ofNat_Int, Int.natCast_one, Int.natCast_zero, ixP0, ixP1, ixQ0, ixQ1, r_eqP, r_neP, r_eqQ, r_neQ, r_eqL, r_neL, r_inP, r_ninP, lenP, slTo, slFrom, slLast, slLastN, revP, isLP, ↓sAP, ↓sLP, qT_0]
            rw [stay c, Option.toList_none, ← fin0]
        · have c : ¬ Chg u (sd h)[i] := fun c => by unfold Chg at c; grind
          dsimp? [Int.cast_ofNat_Int, Int.natCast_one, Int.natCast_zero, ixP0, ixP1, ixQ0, ixQ1, r_eqP, r_neP, r_eqQ, r_neQ, r_eqL, r_neL, r_inP, r_ninP, lenP, slTo, slFrom, slLast, slLastN, revP, isLP, ↓sAP, ↓sLP, qT_0]
          rw [stay c, Option.toList_none, ← fin0]
    · rintro γ rfl
      rw [List.take_of_length_le (Nat.le_refl _)]
      have zG : ∀ p ∈ F ++ (sd h).filterMap (xf u), Zp (15 * n + 3 * m + 9) p := fun p hp => by
        rcases List.mem_append.mp hp with hp | hp
        · exact (zF p hp).mono (by omega)
        · obtain ⟨e, he, k⟩ := List.mem_filterMap.mp hp
          unfold xf at k
          split at k
          · rename_i c
            cases k
            exact sz_xp hu hc (hz _ (mem_sd he).1) (hz _ (mem_sd he).2) c
          · cases k
      have lG : (F ++ (sd h).filterMap (xf u)).length ≤ 2000 := by
        have a := List.length_filterMap_le (xf u) (sd h)
        rw [sd_len] at a
        rw [List.length_append]
        omega
      generalize F ++ (sd h).filterMap (xf u) = G at *
      dsimp? [Int.cast_ofNat_Int, Int.natCast_one, Int.natCast_zero, ixP0, ixP1, ixQ0, ixQ1, r_eqP, r_neP, r_eqQ, r_neQ, r_eqL, r_neL, r_inP, r_ninP, lenP, slTo, slFrom, slLast, slLastN, revP, isLP, ↓sAP, ↓sLP, qT_0, truPL]
      by_cases c : G = []
      · subst c
        dsimp? [Int.cast_ofNat_Int, Int.natCast_one, Int.natCast_zero, ixP0, ixP1, ixQ0, ixQ1, r_eqP, r_neP, r_eqQ, r_neQ, r_eqL, r_neL, r_inP, r_ninP, lenP, slTo, slFrom, slLast, slLastN, revP, isLP, ↓sAP, ↓sLP, qT_0, List.isEmpty_nil]
        rfl
      · have e : G.isEmpty = false := by cases G with
          | nil => exact absurd rfl c
          | cons _ _ => rfl
        rw [if_neg c]
        dsimp? [Int.cast_ofNat_Int, Int.natCast_one, Int.natCast_zero, ixP0, ixP1, ixQ0, ixQ1, r_eqP, r_neP, r_eqQ, r_neQ, r_eqL, r_neL, r_inP, r_ninP, lenP, slTo, slFrom, slLast, slLastN, revP, isLP, ↓sAP, ↓sLP, qT_0, e, hull_spec (l := G) (by omega) zG (by omega)]
        rfl
/-! half planes -/
theorem half_of_spec (ha : Zp n a) (hb : Zp n b) (hn : 8 * n + 10 ≤ 9000) : sem_half_of [pT a, pT b] = some (hT (nrm (a, b), al a (nrm (a, b))), []) := by
  have zn := Zp.nrm (e := (a, b)) ha hb
  have e : T.tup [qT (b.2 - a.2), qT (a.1 - b.1)] = pT (nrm (a, b)) := rfl
  refine wc_eq ?_
  unfold sem_half_of F_half_of
  dsimp? [Int.cast_ofNat_Int, Int.natCast_one, Int.natCast_zero, ixP0, ixP1, ixQ0, ixQ1, r_eqP, r_neP, r_eqQ, r_neQ, r_eqL, r_neL, r_inP, r_ninP, lenP, slTo, slFrom, slLast, slLastN, revP, isLP, ↓sAP, ↓sLP, qT_0, minus_spec hb.2 ha.2 (by omega), minus_spec ha.1 hb.1 (by omega), e, along_spec (ha.mono (show n ≤ 2 * n + 1 by omega)) zn (by omega)]
  rfl
theorem sz_1 : Sz 1 (1 : Rat) := ⟨by decide, by decide⟩
theorem halves_of_spec (H : Hu S h) (hl : h.length ≤ 1000) (hz : ∀ p ∈ h, Zp n p) (hn : 16 * n + 20 ≤ 9000) : sem_halves_of [pL h] = some (.lst ((hv h).map hT), []) := by
  have l0 := List.length_pos_iff.mpr H.ne
  refine wc_eq ?_
  unfold sem_halves_of F_halves_of hv
  dsimp? [Int.cast_ofNat_Int, Int.natCast_one, Int.natCast_zero, ixP0, ixP1, ixQ0, ixQ1, r_eqP, r_neP, r_eqQ, r_neQ, r_eqL, r_neL, r_inP, r_ninP, lenP, slTo, slFrom, slLast, slLastN, revP, isLP, ↓sAP, ↓sLP, qT_0]
  refine br_d (fun c => ?_) (fun c => ?_)
  · rw [if_pos (show 2 < h.length by omega)]
    dsimp? [Int.cast_ofNat_Int, Int.natCast_one, Int.natCast_zero, ixP0, ixP1, ixQ0, ixQ1, r_eqP, r_neP, r_eqQ, r_neQ, r_eqL, r_neL, r_inP, r_ninP, lenP, slTo, slFrom, slLast, slLastN, revP, isLP, ↓sAP, ↓sLP, qT_0, sides_spec (l := h) (by omega)]
    refine wco_mapx (fun e => hT (nrm e, al e.1 (nrm e))) (by rw [sd_len]; omega) (fun e he => ?_) ?_
    · unfold eS
      dsimp? [Int.cast_ofNat_Int, Int.natCast_one, Int.natCast_zero, ixP0, ixP1, ixQ0, ixQ1, r_eqP, r_neP, r_eqQ, r_neQ, r_eqL, r_neL, r_inP, r_ninP, lenP, slTo, slFrom, slLast, slLastN, revP, isLP, ↓sAP, ↓sLP, qT_0, half_of_spec (hz _ (mem_sd he).1) (hz _ (mem_sd he).2) (by omega)]
    · rw [List.map_map]
      dsimp? [Int.cast_ofNat_Int, Int.natCast_one, Int.natCast_zero, ixP0, ixP1, ixQ0, ixQ1, r_eqP, r_neP, r_eqQ, r_neQ, r_eqL, r_neL, r_inP, r_ninP, lenP, slTo, slFrom, slLast, slLastN, revP, isLP, ↓sAP, ↓sLP, qT_0]
      rfl
  · rw [if_neg (show ¬ 2 < h.length by omega)]
    have i0 : gIx (pL h) (.int 0) = some (pT (g h 0)) := ixL (k := 0) l0
    have i1 := ixC (l := h) (i := -1) (by omega) (by omega)
    rw [show ((-1 : Int) + h.length).toNat = h.length - 1 by omega, cy_lt (by omega)] at i1
    have z0 := hz _ (g_mem l0)
    have z1 := hz _ (g_mem (show h.length - 1 < h.length by omega))
    have four : ∀ (d : P) (x1 x2 : Option T) (Q : KQ), Zp (2 * n + 1) d → Q.ap (.nx [some (pL h), x1, x2, some (qT d.1), some (qT d.2), some (.lst (([d, ng d, (-d.2, d.1), (d.2, -d.1)].map fun u => (u, mx h u)).map hT)), none]) → @WF (tgN 6) (sSeq (sDrop (eMut 5 isL gApp (aCons (eBin gAdd (eVar 6) (eTup (aCons (eOwn sem_reach [] (aCons (eVar 0) (aCons (eVar 6) aNil))) aNil))) aNil))) (sKill 6 sNx)) ([d, ng d, (-d.2, d.1), (d.2, -d.1)].map pT) [some (pL h), x1, x2, some (qT d.1), some (qT d.2), some (.lst []), none] Q := fun d x1 x2 Q hd hQ => by
      have hN : ∀ p ∈ h, Zp (2 * n + 1) p := fun p hp => (hz p hp).mono (by omega)
      have o1 : Zp (2 * n + 1) (ng d) := hd.opp'
      have o2 : Zp (2 * n + 1) (-d.2, d.1) := ⟨sz_neg hd.2, hd.1⟩
      have o3 : Zp (2 * n + 1) (d.2, -d.1) := ⟨hd.2, sz_neg hd.1⟩
      have zd : ∀ w ∈ [d, ng d, (-d.2, d.1), (d.2, -d.1)], Zp (2 * n + 1) w := fun w hw => by
        simp only [List.mem_cons, List.not_mem_nil, or_false] at hw
        rcases hw with rfl | rfl | rfl | rfl <;> assumption
      have l4 : [d, ng d, (-d.2, d.1), (d.2, -d.1)].length = 4 := rfl
      generalize [d, ng d, (-d.2, d.1), (d.2, -d.1)] = ds at *
      refine wf_map (I := fun i γ => γ = [some (pL h), x1, x2, some (qT d.1), some (qT d.2), some (.lst (((ds.take i).map fun u => (u, mx h u)).map hT)), none]) rfl ?_ ?_
      · rintro i γ hi rfl
        have zi := zd _ (List.getElem_mem hi)
        have ea : gAdd (pT ds[i]) (.tup [qT (mx h ds[i])]) = some (hT (ds[i], mx h ds[i])) := by
          show gAdd (.tup [qT ds[i].1, qT ds[i].2]) (.tup [qT (mx h ds[i])]) = _
          rw [r_addT, if_pos (by rw [sizeLine_eq]; simp)]
          rfl
        have ll : (((ds.take i).map fun u => (u, mx h u)).map hT).length < 16777216 := by
          rw [List.length_map, List.length_map, List.length_take]
          omega
        have tk : ((ds.take (i + 1)).map fun u => (u, mx h u)).map hT = ((ds.take i).map fun u => (u, mx h u)).map hT ++ [hT (ds[i], mx h ds[i])] := by
          rw [List.take_add_one, List.getElem?_eq_getElem hi, Option.toList_some, List.map_append, List.map_append]
          rfl
        rw [tk]
        generalize ((ds.take i).map fun u => (u, mx h u)).map hT = us at *
        dsimp? [Int.cast_ofNat_Int, Int.natCast_one, Int.natCast_zero, ixP0, ixP1, ixQ0, ixQ1, r_eqP, r_neP, r_eqQ, r_neQ, r_eqL, r_neL, r_inP, r_ninP, lenP, slTo, slFrom, slLast, slLastN, revP, isLP, ↓sAP, ↓sLP, qT_0, reach_mx H.ne (by omega) hN zi (by omega), ea]
        refine sd_i ll ?_
        dsimp? [Int.cast_ofNat_Int, Int.natCast_one, Int.natCast_zero, ixP0, ixP1, ixQ0, ixQ1, r_eqP, r_neP, r_eqQ, r_neQ, r_eqL, r_neL, r_inP, r_ninP, lenP, slTo, slFrom, slLast, slLastN, revP, isLP, ↓sAP, ↓sLP, qT_0]
      · rintro γ rfl
        rw [List.take_of_length_le (Nat.le_refl _)]
        exact hQ
    have s1 := minus_spec z1.1 z0.1 (by omega)
    have s2 := minus_spec z1.2 z0.2 (by omega)
    dsimp? [Int.cast_ofNat_Int, Int.natCast_one, Int.natCast_zero, ixP0, ixP1, ixQ0, ixQ1, r_eqP, r_neP, r_eqQ, r_neQ, r_eqL, r_neL, r_inP, r_ninP, lenP, slTo, slFrom, slLast, slLastN, revP, isLP, ↓sAP, ↓sLP, qT_0, i0, i1, s1, s2]
    refine br_d (fun c1 => ?_) (fun c1 => ?_)
    · rw [if_pos (show h.length = 1 by omega)]
      have e1 : T.tup [T.int 1, T.int 1] = qT 1 := (qT_int 1).symm
      dsimp? [Int.cast_ofNat_Int, Int.natCast_one, Int.natCast_zero, ixP0, ixP1, ixQ0, ixQ1, r_eqP, r_neP, r_eqQ, r_neQ, r_eqL, r_neL, r_inP, r_ninP, lenP, slTo, slFrom, slLast, slLastN, revP, isLP, ↓sAP, ↓sLP, qT_0, e1, negative_spec]
      refine four (1, 0) _ _ _ ⟨sz_1.mono (by omega), sz_0⟩ ?_
      dsimp? [Int.cast_ofNat_Int, Int.natCast_one, Int.natCast_zero, ixP0, ixP1, ixQ0, ixQ1, r_eqP, r_neP, r_eqQ, r_neQ, r_eqL, r_neL, r_inP, r_ninP, lenP, slTo, slFrom, slLast, slLastN, revP, isLP, ↓sAP, ↓sLP, qT_0]
    · rw [if_neg (show ¬ h.length = 1 by omega)]
      have zv : Zp (2 * n + 1) (vc (g h 0) (g h (h.length - 1))) := ⟨(sz_sub z1.1 z0.1).mono (by omega), (sz_sub z1.2 z0.2).mono (by omega)⟩
      have e1 : h.length - 1 = 1 := by omega
      dsimp? [Int.cast_ofNat_Int, Int.natCast_one, Int.natCast_zero, ixP0, ixP1, ixQ0, ixQ1, r_eqP, r_neP, r_eqQ, r_neQ, r_eqL, r_neL, r_inP, r_ninP, lenP, slTo, slFrom, slLast, slLastN, revP, isLP, ↓sAP, ↓sLP, qT_0, negative_spec]
      refine four (vc (g h 0) (g h (h.length - 1))) _ _ _ zv ?_
      rw [e1]
      dsimp? [Int.cast_ofNat_Int, Int.natCast_one, Int.natCast_zero, ixP0, ixP1, ixQ0, ixQ1, r_eqP, r_neP, r_eqQ, r_neQ, r_eqL, r_neL, r_inP, r_ninP, lenP, slTo, slFrom, slLast, slLastN, revP, isLP, ↓sAP, ↓sLP, qT_0]
end
end LawS

namespace LawS
open Tw L2 LawP Hl
def cst : Option (List P) → P × Rat → Option (List P)
  | none, _ => none
  | some h, u => if cutP h u = [] then none else some (HU (cutP h u))
theorem cst_none : ∀ us : List (P × Rat), us.foldl cst none = none
  | [] => rfl
  | _ :: us => cst_none us
theorem lf_ok : ∀ {us : List (P × Rat)} {S h : List P}, Hu S h → (∀ h', us.foldl cst (some h) = some h' → (∃ S', Hu S' h') ∧ ∀ q, Cv h' q ↔ Cv h q ∧ ∀ u ∈ us, ab u q ≤ 0) ∧ (us.foldl cst (some h) = none → ∀ q, Cv h q → ¬ ∀ u ∈ us, ab u q ≤ 0)
  | [], S, h, H => ⟨fun h' e => by cases e; exact ⟨⟨S, H⟩, fun q => by simp⟩, fun e => nomatch e⟩
  | u :: us, S, h, H => by
    rw [List.foldl_cons]
    by_cases c : cutP h u = []
    · have e : cst (some h) u = none := if_pos c
      rw [e, cst_none]
      refine ⟨fun h' e => (nomatch e), fun _ q hq k => ?_⟩
      have := cut_nil c hq
      have := k u (by simp)
      grind
    · have e : cst (some h) u = some (HU (cutP h u)) := if_neg c
      rw [e]
      have K := HU_ok c
      obtain ⟨k1, k2⟩ := lf_ok (us := us) K
      have eq : ∀ q, Cv (HU (cutP h u)) q ↔ Cv h q ∧ ab u q ≤ 0 := fun q => by rw [hu_iff K, cut_cv H c]
      refine ⟨fun h' e => ?_, fun e q hq k => k2 e q ((eq q).mpr ⟨hq, k u (by simp)⟩) fun v hv => k v (List.mem_cons_of_mem _ hv)⟩
      obtain ⟨j1, j2⟩ := k1 h' e
      refine ⟨j1, fun q => ?_⟩
      rw [j2, eq, List.forall_mem_cons, and_assoc]
theorem isPL {h : List P} : isT (pL h) .non = some false := rfl
theorem isO {o : Option (List P)} : isT (oT o) .non = some o.isNone := by cases o <;> rfl
theorem wgH {n : Nat} {h : TgT} {u : P × Rat} {γ : En} {Kg : KG} : @WG (tgSeq n h) (hT u) γ Kg = @WG (tgSeq n h) (.tup [qT u.1.1, qT u.1.2, qT u.2]) γ Kg := rfl
section
variable {S S' one other : List P} {n m k : Nat}
/-- what is kept while one shape is cut by the half planes of another one -/
structure Kp (J : List P → Prop) (n m : Nat) (one : List P) (us : List (P × Rat)) : Prop where
  fst : J one
  ok : ∀ h, J h → h.length ≤ 1000 ∧ ∀ p ∈ h, Zp n p
  st : ∀ S h u, J h → Hu S h → u ∈ us → cutP h u ≠ [] → J (HU (cutP h u))
  us : ∀ u ∈ us, Zp n u.1 ∧ Sz m u.2
  bd : 120 * n + 24 * m + 200 ≤ 9000
theorem left_spec {J : List P → Prop} (H : Hu S one) (H' : Hu S' other) (hl' : other.length ≤ 1000) (hz' : ∀ p ∈ other, Zp k p) (hk : 16 * k + 20 ≤ 9000) (kp : Kp J n m one (hv other)) :
    sem_left_of_all [.lst [pL one, pL other]] = some (oT ((hv other).foldl cst (some one)), []) ∧ ∀ h, (hv other).foldl cst (some one) = some h → J h := by
  suffices hh : @WC (sem_left_of_all [.lst [pL one, pL other]]) ⟨fun t us => us = [] ∧ t = oT ((hv other).foldl cst (some one)) ∧ ∀ h, (hv other).foldl cst (some one) = some h → J h⟩ by
    obtain ⟨t, us, e, rfl, rfl, q⟩ := hh
    exact ⟨e, q⟩
  have e1 : gSl (.lst [pL one, pL other]) (some 1) none = some (.lst [pL other]) := by
    rw [r_slL]
    show some (T.lst (cutT [pL one, pL other] (some ((1 : Nat) : Int)) none)) = _
    rw [cut_from]
    rfl
  unfold sem_left_of_all F_left_of_all
  dsimp? [Int.cast_ofNat_Int, Int.natCast_one, Int.natCast_zero, ixP0, ixP1, ixQ0, ixQ1, r_eqP, r_neP, r_eqQ, r_neQ, r_eqL, r_neL, r_inP, r_ninP, lenP, slTo, slFrom, slLast, slLastN, revP, isLP, ↓sAP, ↓sLP, qT_0, e1, ↓wf_cons, ↓wf_nil, halves_of_spec H' hl' hz' hk]
  refine wf_map (I := fun i γ => ∃ x3, γ = [some (.lst [pL one, pL other]), some (oT (((hv other).take i).foldl cst (some one))), some (pL other), x3] ∧ ∀ h, ((hv other).take i).foldl cst (some one) = some h → J h ∧ ∃ S, Hu S h) ⟨_, rfl, fun h e => by cases e; exact ⟨kp.fst, S, H⟩⟩ ?_ ?_
  · rintro i γ hi ⟨x3, rfl, hJ⟩
    have hu := List.getElem_mem hi
    have ef : ((hv other).take (i + 1)).foldl cst (some one) = cst (((hv other).take i).foldl cst (some one)) (hv other)[i] := by
      rw [List.take_add_one, List.getElem?_eq_getElem hi, List.foldl_append]
      rfl
    rw [ef]
    generalize ((hv other).take i).foldl cst (some one) = s at *
    cases s with
    | none =>
      dsimp? [Int.cast_ofNat_Int, Int.natCast_one, Int.natCast_zero, ixP0, ixP1, ixQ0, ixQ1, r_eqP, r_neP, r_eqQ, r_neQ, r_eqL, r_neL, r_inP, r_ninP, lenP, slTo, slFrom, slLast, slLastN, revP, isLP, ↓sAP, ↓sLP, qT_0, isO, Option.isNone_none]
      exact ⟨_, rfl, fun h e => nomatch e⟩
    | some h =>
      obtain ⟨j, S0, H0⟩ := hJ h rfl
      obtain ⟨lh, zh⟩ := kp.ok h j
      obtain ⟨zu, zc⟩ := kp.us _ hu
      have ec : cst (some h) (hv other)[i] = if cutP h (hv other)[i] = [] then none else some (HU (cutP h (hv other)[i])) := rfl
      have cs := cut_spec (h := h) (u := (hv other)[i]) H0.ne lh zh zu zc kp.bd
      rw [← ec] at cs
      dsimp? [Int.cast_ofNat_Int, Int.natCast_one, Int.natCast_zero, ixP0, ixP1, ixQ0, ixQ1, r_eqP, r_neP, r_eqQ, r_neQ, r_eqL, r_neL, r_inP, r_ninP, lenP, slTo, slFrom, slLast, slLastN, revP, isLP, ↓sAP, ↓sLP, qT_0, isPL, show oT (some h) = pL h from rfl, cs]
      refine ⟨_, rfl, fun h' e => ?_⟩
      rw [ec] at e
      split at e
      · cases e
      · rename_i c
        cases e
        exact ⟨kp.st _ _ _ j H0 hu c, _, HU_ok c⟩
  · rintro γ ⟨x3, rfl, hJ⟩
    rw [List.take_length] at hJ ⊢
    dsimp? [Int.cast_ofNat_Int, Int.natCast_one, Int.natCast_zero, ixP0, ixP1, ixQ0, ixQ1, r_eqP, r_neP, r_eqQ, r_neQ, r_eqL, r_neL, r_inP, r_ninP, lenP, slTo, slFrom, slLast, slLastN, revP, isLP, ↓sAP, ↓sLP, qT_0, ↓wf_nil]
    exact fun h e => (hJ h e).1
theorem hv_in (H : Hu S other) {q : P} : (∀ u ∈ hv other, ab u q ≤ 0) ↔ Cv other q := by
  rw [hv_iff H]
  constructor
  · intro h u hu
    have := h u hu
    unfold ab at this
    grind
  · intro h u hu
    have := h u hu
    unfold ab
    grind
theorem hv_zp (H : Hu S one) (hz : ∀ p ∈ one, Zp n p) {u : P × Rat} (hu : u ∈ hv one) : Zp (2 * n + 1) u.1 := by
  unfold hv at hu
  split at hu
  · obtain ⟨e, he, rfl⟩ := List.mem_map.mp hu
    exact (hz _ (mem_sd he).1).nrm (hz _ (mem_sd he).2)
  · rename_i c
    obtain ⟨d, hd, rfl⟩ := List.mem_map.mp hu
    have l0 := List.length_pos_iff.mpr H.ne
    have zd : Zp (2 * n + 1) (if one.length = 1 then (1, 0) else vc (g one 0) (g one 1)) := by
      split
      · exact ⟨sz_1.mono (by omega), sz_0⟩
      · have z0 := hz _ (g_mem l0)
        have z1 := hz _ (g_mem (show 1 < one.length by omega))
        exact ⟨(sz_sub z1.1 z0.1).mono (by omega), (sz_sub z1.2 z0.2).mono (by omega)⟩
    generalize (if one.length = 1 then (1, 0) else vc (g one 0) (g one 1)) = w at *
    simp only [List.mem_cons, List.not_mem_nil, or_false] at hd
    rcases hd with rfl | rfl | rfl | rfl
    · exact zd
    · exact zd.opp'
    · exact ⟨sz_neg zd.2, zd.1⟩
    · exact ⟨zd.2, sz_neg zd.1⟩
def sPoint : T := .str "point"
def sLine : T := .str "line"
theorem parted_spec {J : List P → Prop} (H : Hu S one) (H' : Hu S' other) (hl : one.length ≤ 30) (hl' : other.length ≤ 30) (hz : ∀ p ∈ one, Zp k p) (hz' : ∀ p ∈ other, Zp k p) (hk : k ≤ 100) (kp : Kp J n m one (hv other)) :
    (∃ h, J h ∧ h ≠ [] ∧ (∀ q, Cv h q ↔ Cv one q ∧ Cv other q) ∧ sem_parted [pL one, pL other] = some (.tup [sPoint, pT (g h 0)], [])) ∨
    ((∀ q, ¬ (Cv one q ∧ Cv other q)) ∧ ∃ u ∈ hv (HU (sumP one (HU (other.map Hl.neg)))), u.2 < 0 ∧ sem_parted [pL one, pL other] = some (.tup [sLine, qT u.1.1, qT u.1.2, qT (mx one u.1 - u.2 / 2)], [])) := by
  obtain ⟨el, jl⟩ := left_spec (k := k) H H' (by omega) hz' (by omega) kp
  obtain ⟨f1, f2⟩ := lf_ok (us := hv other) H
  cases hr : (hv other).foldl cst (some one) with
  | some h =>
    rw [hr] at el
    obtain ⟨⟨S0, H0⟩, k2⟩ := f1 h hr
    have jh := jl h hr
    refine .inl ⟨h, jh, H0.ne, fun q => by rw [k2, hv_in H'], ?_⟩
    have i0 : gIx (pL h) (.int 0) = some (pT (g h 0)) := ixL (k := 0) (List.length_pos_iff.mpr H0.ne)
    refine wc_eq ?_
    unfold sem_parted F_parted
    dsimp? [Int.cast_ofNat_Int, Int.natCast_one, Int.natCast_zero, ixP0, ixP1, ixQ0, ixQ1, r_eqP, r_neP, r_eqQ, r_neQ, r_eqL, r_neL, r_inP, r_ninP, lenP, slTo, slFrom, slLast, slLastN, revP, isLP, ↓sAP, ↓sLP, qT_0, el, show oT (some h) = pL h from rfl, isPL, i0]
    rfl
  | none =>
    rw [hr] at el
    have no : ∀ q, ¬ (Cv one q ∧ Cv other q) := fun q ⟨a, b⟩ => f2 hr q a ((hv_in H').mpr b)
    have nN : other.map Hl.neg ≠ [] := by simpa using H'.ne
    have HN := HU_ok nN
    have zN : ∀ p ∈ HU (other.map Hl.neg), Zp k p := fun p hp => by
      obtain ⟨x, hx, rfl⟩ := List.mem_map.mp (HN.sub p hp)
      exact (hz' x hx).opp
    have lN : (HU (other.map Hl.neg)).length ≤ 30 := by
      have := nd_len HN.nd HN.sub
      rw [List.length_map] at this
      omega
    have lS : one.length * (HU (other.map Hl.neg)).length ≤ 900 := Nat.mul_le_mul hl lN
    have nS : sumP one (HU (other.map Hl.neg)) ≠ [] := by
      intro z
      have := congrArg List.length z
      rw [sumP_len] at this
      have a := List.length_pos_iff.mpr H.ne
      have b := List.length_pos_iff.mpr HN.ne
      have := Nat.mul_pos a b
      simp at *
      omega
    have K := HU_ok nS
    have zK : ∀ p ∈ HU (sumP one (HU (other.map Hl.neg))), Zp (2 * k + 1) p := fun p hp => by
      obtain ⟨x, hx, y, hy, rfl⟩ := mem_sumP.mp (K.sub p hp)
      exact (hz x hx).ad (zN y hy)
    have lK : (HU (sumP one (HU (other.map Hl.neg)))).length ≤ 900 := by
      have := nd_len K.nd K.sub
      rw [sumP_len] at this
      omega
    have out : ¬ Cv (HU (sumP one (HU (other.map Hl.neg)))) (0, 0) := fun c => by
      rw [hu_iff K, cv_sum H.ne HN.ne] at c
      obtain ⟨s, t, c1, c2, c3⟩ := c
      rw [hu_iff HN] at c2
      have ht : t = Hl.neg s := by
        unfold ad at c3
        have z1 := congrArg Prod.fst c3
        have z2 := congrArg Prod.snd c3
        unfold Hl.neg
        apply Prod.ext <;> grind
      rw [ht] at c2
      exact no s ⟨c1, cv_neg.mp c2⟩
    obtain ⟨u, hu, hu0⟩ : ∃ u ∈ hv (HU (sumP one (HU (other.map Hl.neg)))), u.2 < 0 := by
      apply Classical.byContradiction
      intro hn
      refine out ((hv_iff K).mpr fun u hu => ?_)
      have : ¬ (u.2 < 0) := fun c => hn ⟨u, hu, c⟩
      have e : al (0, 0) u.1 = 0 := by unfold al; grind
      rw [e]
      grind
    have as := added_spec (l := one) (m := HU (other.map Hl.neg)) (n := k) (by omega) hz zN (by omega)
    have ts := turned_spec (l := other) (n := k) (by omega) hz' (by omega)
    have hs := halves_of_spec K (by omega) zK (by omega)
    generalize HU (sumP one (HU (other.map Hl.neg))) = Q at *
    suffices hh : @WC (sem_parted [pL one, pL other]) ⟨fun t us => us = [] ∧ ∃ u ∈ hv Q, u.2 < 0 ∧ t = .tup [sLine, qT u.1.1, qT u.1.2, qT (mx one u.1 - u.2 / 2)]⟩ by
      obtain ⟨t, us, e, rfl, w, hw, hw0, rfl⟩ := hh
      exact .inr ⟨no, w, hw, hw0, e⟩
    unfold sem_parted F_parted
    dsimp? [Int.cast_ofNat_Int, Int.natCast_one, Int.natCast_zero, ixP0, ixP1, ixQ0, ixQ1, r_eqP, r_neP, r_eqQ, r_neQ, r_eqL, r_neL, r_inP, r_ninP, lenP, slTo, slFrom, slLast, slLastN, revP, isLP, ↓sAP, ↓sLP, qT_0, el, show oT none = T.non from rfl, ts, as, hs]
    refine wf_map (I := fun i γ => γ = [some (pL one), some (pL other), some .non, none, none, none] ∧ ∀ w ∈ (hv Q).take i, ¬ w.2 < 0) ⟨rfl, by simp⟩ ?_ ?_
    · rintro i γ hi ⟨rfl, hno⟩
      have hw := List.getElem_mem hi
      have zw := hv_zp K zK hw
      have zo : ∀ p ∈ one, Zp (2 * (2 * k + 1) + 1) p := fun p hp => (hz p hp).mono (by omega)
      have sc : Sz (4 * (2 * (2 * k + 1) + 1) + 1) (hv Q)[i].2 := by
        rw [hv_mx K hw]
        exact sz_mx K.ne (fun p hp => (zK p hp).mono (by omega)) zw
      have sm := sz_mx H.ne zo zw
      have rm := reach_mx H.ne (by omega) zo zw (by omega)
      have tk : ∀ w ∈ (hv Q).take (i + 1), w ∈ (hv Q).take i ∨ w = (hv Q)[i] := fun w h' => (mem_take_s hi).mp h'
      generalize (hv Q)[i] = w at *
      have eu : T.tup [qT w.1.1, qT w.1.2] = pT w.1 := rfl
      dsimp? [Int.cast_ofNat_Int, Int.natCast_one, Int.natCast_zero, ixP0, ixP1, ixQ0, ixQ1, r_eqP, r_neP, r_eqQ, r_neQ, r_eqL, r_neL, r_inP, r_ninP, lenP, slTo, slFrom, slLast, slLastN, revP, isLP, ↓sAP, ↓sLP, qT_0, ↓wgH, less_spec sc (sz_0 (n := 0)) (by omega)]
      refine br_d (fun c => ?_) (fun c => ?_)
      · dsimp? [Int.cast_ofNat_Int, Int.natCast_one, Int.natCast_zero, ixP0, ixP1, ixQ0, ixQ1, r_eqP, r_neP, r_eqQ, r_neQ, r_eqL, r_neL, r_inP, r_ninP, lenP, slTo, slFrom, slLast, slLastN, revP, isLP, ↓sAP, ↓sLP, qT_0, eu, rm, qT_2, over_spec sc (sz_2 (n := 0)) (by decide) (by omega), minus_spec sm (sz_div sc (sz_2 (n := 0)) (by decide)) (by omega)]
        exact ⟨w, hw, c, rfl⟩
      · dsimp? [Int.cast_ofNat_Int, Int.natCast_one, Int.natCast_zero, ixP0, ixP1, ixQ0, ixQ1, r_eqP, r_neP, r_eqQ, r_neQ, r_eqL, r_neL, r_inP, r_ninP, lenP, slTo, slFrom, slLast, slLastN, revP, isLP, ↓sAP, ↓sLP, qT_0]
        refine fun v hv' => ?_
        rcases tk v hv' with h' | h'
        · exact hno v h'
        · rw [h']; exact c
    · rintro γ ⟨rfl, hno⟩
      rw [List.take_length] at hno
      exact absurd hu0 (hno u hu)
end
end LawS

namespace LawS
open Tw L2 LawP Hl
/-! one segment cut: sizes -/
def N36 (B : Nat) (x : Rat) : Prop := ∃ i : Int, i.natAbs ≤ B ∧ x = (i : Rat) / (36 : Int)
theorem N36.sz {B n : Nat} {x : Rat} (h : N36 B x) (hb : B < 2 ^ n) (h6 : 6 ≤ n) : Sz n x := by
  obtain ⟨i, hi, rfl⟩ := h
  exact Sz.div (by omega) (Nat.lt_of_lt_of_le (show (36 : Int).natAbs < 2 ^ 6 by decide) (Nat.pow_le_pow_right (by decide) h6)) (by decide)
theorem N36.sub {A B : Nat} {x y : Rat} (hx : N36 A x) (hy : N36 B y) : N36 (A + B) (x - y) := by
  obtain ⟨i, hi, rfl⟩ := hx
  obtain ⟨j, hj, rfl⟩ := hy
  refine ⟨i - j, by omega, ?_⟩
  rw [Rat.intCast_sub]
  grind
theorem al_36 {A B : Nat} {p d : P} (hp : Np A p) (hd : Np B d) : N36 (2 * (A * B)) (al p d) := by
  obtain ⟨⟨i1, b1, e1⟩, i2, b2, e2⟩ := hp
  obtain ⟨⟨j1, c1, f1⟩, j2, c2, f2⟩ := hd
  refine ⟨j1 * i1 + j2 * i2, ?_, ?_⟩
  · have k1 : (j1 * i1).natAbs ≤ A * B := by rw [Int.natAbs_mul, Nat.mul_comm]; exact Nat.mul_le_mul b1 c1
    have k2 : (j2 * i2).natAbs ≤ A * B := by rw [Int.natAbs_mul, Nat.mul_comm]; exact Nat.mul_le_mul b2 c2
    omega
  · unfold al
    rw [e1, e2, f1, f2, Rat.intCast_add, Rat.intCast_mul, Rat.intCast_mul]
    grind
theorem mix (a k i j : Int) (hj : j ≠ 0) : (a : Rat) / (6 : Int) + ((i : Rat) / (36 : Int)) / ((j : Rat) / (36 : Int)) * ((k : Rat) / (6 : Int)) = ((a * j + i * k : Int) : Rat) / ((6 * j : Int) : Rat) := by
  have hj' : (j : Rat) ≠ 0 := by
    intro h
    exact hj (by exact_mod_cast h)
  rw [Rat.intCast_add, Rat.intCast_mul, Rat.intCast_mul, Rat.intCast_mul]
  grind
theorem mix_sz {x1 y1 f f2 : Rat} {A B C D n : Nat} (hx : Nm A x1) (hy : Nm B y1) (hf : N36 C f) (hf2 : N36 D f2) (h0 : f2 ≠ 0) (h1 : A * D + C * B < 2 ^ n) (h2 : 6 * D < 2 ^ n) : Sz n (x1 + f / f2 * y1) := by
  obtain ⟨a, ba, rfl⟩ := hx
  obtain ⟨k, bk, rfl⟩ := hy
  obtain ⟨i, bi, rfl⟩ := hf
  obtain ⟨j, bj, rfl⟩ := hf2
  have hj : j ≠ 0 := fun e => h0 (by rw [e]; grind)
  rw [mix a k i j hj]
  have k1 : (a * j).natAbs ≤ A * D := by rw [Int.natAbs_mul]; exact Nat.mul_le_mul ba bj
  have k2 : (i * k).natAbs ≤ C * B := by rw [Int.natAbs_mul]; exact Nat.mul_le_mul bi bk
  exact Sz.div (by omega) (by omega) (by omega)
section
variable {S S' h near : List P} {a b : P}
theorem nrm_np' {B : Nat} {e : P × P} (h1 : Np B e.1) (h2 : Np B e.2) : Np (B + B) (nrm e) := ⟨h2.2.sub h1.2, h1.1.sub h2.1⟩
theorem hv_np {B : Nat} (H : Hu S near) (hz : ∀ p ∈ near, Np B p) (hB : 6 ≤ B) {u : P × Rat} (hu : u ∈ hv near) : Np (B + B) u.1 := by
  unfold hv at hu
  split at hu
  · obtain ⟨e, he, rfl⟩ := List.mem_map.mp hu
    exact nrm_np' (hz _ (mem_sd he).1) (hz _ (mem_sd he).2)
  · rename_i c
    obtain ⟨d, hd, rfl⟩ := List.mem_map.mp hu
    have l0 := List.length_pos_iff.mpr H.ne
    have zd : Np (B + B) (if near.length = 1 then (1, 0) else vc (g near 0) (g near 1)) := by
      split
      · exact ⟨⟨6, by omega, by grind⟩, ⟨0, by omega, by grind⟩⟩
      · have z0 := hz _ (g_mem l0)
        have z1 := hz _ (g_mem (show 1 < near.length by omega))
        exact ⟨z1.1.sub z0.1, z1.2.sub z0.2⟩
    generalize (if near.length = 1 then (1, 0) else vc (g near 0) (g near 1)) = w at *
    simp only [List.mem_cons, List.not_mem_nil, or_false] at hd
    rcases hd with rfl | rfl | rfl | rfl
    · exact zd
    · exact ⟨zd.1.neg, zd.2.neg⟩
    · exact ⟨zd.2.neg, zd.1⟩
    · exact ⟨zd.2, zd.1.neg⟩
theorem cv2 {p : P} (h : Cv [a, b] p) : ∃ t : Rat, p = (a.1 + t * (b.1 - a.1), a.2 + t * (b.2 - a.2)) := by
  obtain ⟨x, y, z, hx, hy, hz, r, s, t, hr, hs, ht, h1, h2, h3⟩ := h
  simp only [List.mem_cons, List.not_mem_nil, or_false] at hx hy hz
  have hr' : r = 1 - s - t := by grind
  subst hr'
  rcases hx with rfl | rfl <;> rcases hy with rfl | rfl <;> rcases hz with rfl | rfl
  · exact ⟨0, by apply Prod.ext <;> grind⟩
  · exact ⟨t, by apply Prod.ext <;> grind⟩
  · exact ⟨s, by apply Prod.ext <;> grind⟩
  · exact ⟨s + t, by apply Prod.ext <;> grind⟩
  · exact ⟨1 - s - t, by apply Prod.ext <;> grind⟩
  · exact ⟨1 - s, by apply Prod.ext <;> grind⟩
  · exact ⟨1 - t, by apply Prod.ext <;> grind⟩
  · exact ⟨1, by apply Prod.ext <;> grind⟩
theorem cr_line {t1 t2 t3 : Rat} : cr (a.1 + t1 * (b.1 - a.1), a.2 + t1 * (b.2 - a.2)) (a.1 + t2 * (b.1 - a.1), a.2 + t2 * (b.2 - a.2)) (a.1 + t3 * (b.1 - a.1), a.2 + t3 * (b.2 - a.2)) = 0 := by unfold cr; grind
theorem seg_two (H : Hu S h) (hc : ∀ p ∈ h, Cv [a, b] p) : h.length ≤ 2 := by
  apply Classical.byContradiction
  intro hn
  have t := H.tn (by omega) 0
  obtain ⟨t1, e1⟩ := cv2 (hc _ (cy_mem H.ne 0))
  obtain ⟨t2, e2⟩ := cv2 (hc _ (cy_mem H.ne (0 + 1)))
  obtain ⟨t3, e3⟩ := cv2 (hc _ (cy_mem H.ne (0 + 2)))
  rw [e1, e2, e3, cr_line] at t
  exact absurd t (by decide)
/-- where a part of a segment crosses a line, the segment does -/
theorem xp_seg {u : P × Rat} {e : P × P} (h1 : Cv [a, b] e.1) (h2 : Cv [a, b] e.2) (c : Chg u e) : ab u a - ab u b ≠ 0 ∧ xp u e = xp u (a, b) := by
  obtain ⟨t1, e1⟩ := cv2 h1
  obtain ⟨t2, e2⟩ := cv2 h2
  have f1 : ab u e.1 = ab u a + t1 * (ab u b - ab u a) := by rw [e1]; exact pt_t
  have f2 : ab u e.2 = ab u a + t2 * (ab u b - ab u a) := by rw [e2]; exact pt_t
  have d : ab u a - ab u b ≠ 0 := fun z => by
    have z' : ab u b - ab u a = 0 := by grind
    rw [z'] at f1 f2
    unfold Chg at c
    grind
  refine ⟨d, ?_⟩
  obtain ⟨t, et⟩ := cv2 (cv_trans (Y := [a, b]) (X := [e.1, e.2]) (by simp) (fun x hx => by
    simp only [List.mem_cons, List.not_mem_nil, or_false] at hx
    rcases hx with rfl | rfl
    · exact h1
    · exact h2) (xp_cv c (X := [e.1, e.2]) (by simp) (by simp)))
  have z := xp_z c
  rw [et, pt_t] at z
  have k : t = ab u a / (ab u a - ab u b) := by
    have k1 : t * (ab u a - ab u b) = ab u a := by grind
    have k2 : ab u a / (ab u a - ab u b) * (ab u a - ab u b) = ab u a := by grind
    have : (t - ab u a / (ab u a - ab u b)) * (ab u a - ab u b) = 0 := by grind
    have := (Rat.mul_eq_zero.mp this).resolve_right d
    grind
  rw [et, k]
  rfl
theorem seg_keep {E : List P} (hE : E ≠ []) (hE2 : ∀ p ∈ E, p = a ∨ p = b) (ha : Np 30 a) (hb : Np 30 b) (H' : Hu S' near) (hz : ∀ p ∈ near, Np 54 p) : Kp (fun h => h.length ≤ 2 ∧ ∀ p ∈ h, Cv [a, b] p ∧ Zp 22 p) 22 14 (HU E) (hv near) := by
  have K := HU_ok hE
  have cE : ∀ p ∈ HU E, Cv [a, b] p ∧ Zp 22 p := fun p hp => by
    rcases hE2 p (K.sub p hp) with rfl | rfl
    · exact ⟨cv_self (by simp), (ha.zp (n := 5) (by decide) (by decide)).mono (by decide)⟩
    · exact ⟨cv_self (by simp), (hb.zp (n := 5) (by decide) (by decide)).mono (by decide)⟩
  have hus : ∀ u ∈ hv near, Np 108 u.1 ∧ N36 11664 u.2 := fun u hu => by
    have a1 := hv_np H' hz (by decide) hu
    refine ⟨a1, ?_⟩
    rw [hv_mx H' hu]
    obtain ⟨_, x, hx, e⟩ := mx_ok (d := u.1) H'.ne
    rw [e]
    exact al_36 (hz x hx) a1
  refine ⟨⟨seg_two K fun p hp => (cE p hp).1, cE⟩, fun h j => ⟨by omega, fun p hp => (j.2 p hp).2⟩, fun S h u j H0 hu c => ?_, fun u hu => ⟨((hus u hu).1.zp (n := 7) (by decide) (by decide)).mono (by decide), (hus u hu).2.sz (by decide) (by decide)⟩, by decide⟩
  have K1 := HU_ok c
  have cP : ∀ p ∈ HU (cutP h u), Cv [a, b] p ∧ Zp 22 p := fun p hp => by
    rcases mem_cut.mp (K1.sub p hp) with ⟨h1, h2⟩ | ⟨e, he, ch, rfl⟩
    · exact j.2 p h1
    · obtain ⟨d, ex⟩ := xp_seg (j.2 _ (mem_sd he).1).1 (j.2 _ (mem_sd he).2).1 ch
      refine ⟨cv_trans (by simp) (fun x hx => (j.2 x hx).1) (xp_cv ch (mem_sd he).1 (mem_sd he).2), ?_⟩
      rw [ex]
      obtain ⟨u1, u2⟩ := hus u hu
      have fa : N36 18144 (ab u a) := (al_36 ha u1).sub u2
      have fb : N36 18144 (ab u b) := (al_36 hb u1).sub u2
      have fd : N36 36288 (ab u a - ab u b) := fa.sub fb
      exact ⟨mix_sz ha.1 (hb.1.sub ha.1) fa fd d (by decide) (by decide), mix_sz ha.2 (hb.2.sub ha.2) fa fd d (by decide) (by decide)⟩
  exact ⟨seg_two K1 fun p hp => (cP p hp).1, cP⟩
end
end LawS

namespace LawS
open Tw L2 LawP Hl
/-! sums -/
def rs : List Rat → Rat
  | [] => 0
  | x :: l => x + rs l
theorem rs_app : ∀ {l m : List Rat}, rs (l ++ m) = rs l + rs m
  | [], m => by show rs m = 0 + rs m; grind
  | x :: l, m => by show x + rs (l ++ m) = x + rs l + rs m; rw [rs_app]; grind
theorem rs_perm {l m : List Rat} (h : l.Perm m) : rs l = rs m := by
  induction h with
  | nil => rfl
  | cons x _ ih => show x + _ = x + _; rw [ih]
  | swap x y l => show y + (x + rs l) = x + (y + rs l); grind
  | trans _ _ a b => rw [a, b]
theorem rs_add {α : Type} (f k : α → Rat) : ∀ l : List α, rs (l.map fun x => f x + k x) = rs (l.map f) + rs (l.map k)
  | [] => by show (0 : Rat) = 0 + 0; grind
  | x :: l => by show f x + k x + rs (l.map fun x => f x + k x) = (f x + rs (l.map f)) + (k x + rs (l.map k)); rw [rs_add f k l]; grind
theorem rs_sub {α : Type} (f k : α → Rat) : ∀ l : List α, rs (l.map fun x => f x - k x) = rs (l.map f) - rs (l.map k)
  | [] => by show (0 : Rat) = 0 - 0; grind
  | x :: l => by show f x - k x + rs (l.map fun x => f x - k x) = (f x + rs (l.map f)) - (k x + rs (l.map k)); rw [rs_sub f k l]; grind
theorem rs_if {α : Type} (N : α → Prop) [DecidablePred N] (f : α → Rat) : ∀ l : List α, rs (l.map fun x => if N x then f x else 0) = rs ((l.filter fun x => decide (N x)).map f)
  | [] => rfl
  | x :: l => by
    show (if N x then f x else 0) + rs (l.map fun x => if N x then f x else 0) = _
    rw [rs_if N f l, List.filter_cons]
    by_cases c : N x
    · simp only [c, decide_true, if_true]; rfl
    · simp only [c, decide_false, if_false]; rw [if_neg (by decide)]; grind
theorem rs_congr {α : Type} {f k : α → Rat} : ∀ {l : List α}, (∀ x ∈ l, f x = k x) → rs (l.map f) = rs (l.map k)
  | [], _ => rfl
  | x :: l, h => by show f x + rs (l.map f) = k x + rs (l.map k); rw [rs_congr fun y hy => h y (List.mem_cons_of_mem _ hy), h x (by simp)]
theorem A2_rs (xs : List (P × P)) : A2 xs = rs (xs.map ar) := by
  have key : ∀ (xs : List (P × P)) (s : Rat), xs.foldl (fun s e => s + ar e) s = s + rs (xs.map ar) := by
    intro xs
    induction xs with
    | nil => intro s; show s = s + 0; grind
    | cons e xs ih => intro s; rw [List.foldl_cons, ih]; show s + ar e + _ = s + (ar e + _); grind
  unfold A2
  rw [key]
  grind
theorem rs_rot {n : Nat} (F : Nat → Rat) (hF : ∀ k, F (k + n) = F k) : rs ((List.range n).map fun k => F (k + n - 1)) = rs ((List.range n).map F) := by
  cases n with
  | zero => rfl
  | succ m =>
    rw [List.range_succ_eq_map, List.map_cons, List.map_map, ← List.range_succ_eq_map, List.range_succ, List.map_append, rs_app]
    show F (0 + (m + 1) - 1) + rs ((List.range m).map ((fun k => F (k + (m + 1) - 1)) ∘ Nat.succ)) = rs ((List.range m).map F) + (F m + 0)
    rw [show 0 + (m + 1) - 1 = m by omega, show (List.range m).map ((fun k => F (k + (m + 1) - 1)) ∘ Nat.succ) = (List.range m).map F from List.map_congr_left fun k _ => by
      show F (k.succ + (m + 1) - 1) = F k
      rw [show k.succ + (m + 1) - 1 = k + (m + 1) by omega, hF]]
    grind
/-- twice the area, seen from a point -/
def fl (o x : P) : Rat := o.1 * x.2 - o.2 * x.1
theorem cr_ar (o : P) (e : P × P) : cr o e.1 e.2 = (ar e + fl o e.1) - fl o e.2 := by unfold cr ar fl; grind
theorem A2_o (o : P) (h : List P) : A2 (sd h) = rs ((sd h).map fun e => cr o e.1 e.2) := by
  rw [A2_rs, show ((sd h).map fun e => cr o e.1 e.2) = (sd h).map fun e => (ar e + fl o e.1) - fl o e.2 from List.map_congr_left fun e _ => cr_ar o e, rs_sub, rs_add]
  have e1 : rs ((sd h).map fun e => fl o e.1) = rs ((sd h).map fun e => fl o e.2) := by
    unfold sd
    rw [List.map_map, List.map_map]
    exact rs_rot (fun k => fl o (cy h k)) fun k => by show fl o (cy h (k + h.length)) = _; rw [cy_per]
  rw [e1]
  grind
section
variable {S h : List P} {u : P × Rat} {e e' : P × P} {q z o : P}
theorem sd_snd (h : List P) : (sd h).map (·.2) = h := by
  unfold sd
  rw [List.map_map]
  apply List.ext_getElem
  · simp
  · intro i h1 h2
    have hi : i < h.length := by simpa using h1
    simp only [List.getElem_map, List.getElem_range, Function.comp]
    rw [cy_lt hi]
    unfold g
    rw [List.getD_eq_getElem?_getD, List.getElem?_eq_getElem hi, Option.getD_some]
theorem sd_nd (nd : h.Nodup) : (sd h).Nodup := by
  have : ((sd h).map (·.2)).Nodup := by rw [sd_snd]; exact nd
  exact (List.pairwise_map.mp this).imp fun a b => a (by rw [b])
theorem sd_in {a b c : P} (nd : h.Nodup) (h1 : (a, c) ∈ sd h) (h2 : (b, c) ∈ sd h) : a = b := by
  obtain ⟨i, hi, e1⟩ := List.mem_map.mp h1
  obtain ⟨j, hj, e2⟩ := List.mem_map.mp h2
  have hi := List.mem_range.mp hi
  have hj := List.mem_range.mp hj
  have c1 := congrArg Prod.snd e1
  have c2 := congrArg Prod.snd e2
  have : i = j := nd_g nd hi hj (by rw [← cy_lt hi, ← cy_lt hj]; exact c1.trans c2.symm)
  subst this
  exact (congrArg Prod.fst e1).symm.trans (congrArg Prod.fst e2)
theorem sd_out {a b c : P} (nd : h.Nodup) (h1 : (c, a) ∈ sd h) (h2 : (c, b) ∈ sd h) : a = b := by
  obtain ⟨i, hi, e1⟩ := List.mem_map.mp h1
  obtain ⟨j, hj, e2⟩ := List.mem_map.mp h2
  have hi := List.mem_range.mp hi
  have hj := List.mem_range.mp hj
  have c1 := congrArg Prod.fst e1
  have c2 := congrArg Prod.fst e2
  have l0 : 0 < h.length := by omega
  have := nd_g nd (Nat.mod_lt _ l0) (Nat.mod_lt _ l0) (c1.trans c2.symm)
  have k : ∀ i, i < h.length → (i + h.length - 1) % h.length = if i = 0 then h.length - 1 else i - 1 := by
    intro i hi
    split
    · rename_i z; subst z; rw [Nat.mod_eq_of_lt (by omega)]; omega
    · rw [show i + h.length - 1 = (i - 1) + h.length by omega, Nat.add_mod_right, Nat.mod_eq_of_lt (by omega)]
  rw [k i hi, k j hj] at this
  have : i = j := by
    split at this <;> split at this <;> omega
  subst this
  exact (congrArg Prod.snd e1).symm.trans (congrArg Prod.snd e2)
theorem sd_ne (nd : h.Nodup) (h2 : 2 ≤ h.length) (he : e ∈ sd h) : e.1 ≠ e.2 := fun z => by
  obtain ⟨i, hi, e1⟩ := List.mem_map.mp he
  have hi := List.mem_range.mp hi
  have l0 : 0 < h.length := by omega
  rw [← e1] at z
  have z : cy h (i + h.length - 1) = cy h i := z
  rw [cy_lt hi] at z
  have := nd_g nd (Nat.mod_lt _ l0) hi z
  by_cases c : i = 0
  · subst c; rw [Nat.mod_eq_of_lt (by omega)] at this; omega
  · rw [show i + h.length - 1 = (i - 1) + h.length by omega, Nat.add_mod_right, Nat.mod_eq_of_lt (by omega)] at this; omega
theorem sd_le (H : Hu S h) (he : e ∈ sd h) (hq : Cv h q) : 0 ≤ cr e.1 e.2 q := by
  obtain ⟨k, rfl⟩ := sd_cy he
  exact hq.half fun x hx => H.sp k x (H.sub x hx)
theorem sd_from (h0 : h ≠ []) {a : P} (ha : a ∈ h) : ∃ b, (a, b) ∈ sd h := by
  obtain ⟨i, hi, rfl⟩ := mem_g ha
  exact ⟨cy h (i + 1), by rw [← cy_lt hi]; exact cy_sd h0 i⟩
theorem sd_to (h0 : h ≠ []) {b : P} (hb : b ∈ h) : ∃ a, (a, b) ∈ sd h := by
  obtain ⟨i, hi, rfl⟩ := mem_g hb
  refine ⟨cy h (i + h.length - 1), List.mem_map.mpr ⟨i, List.mem_range.mpr hi, ?_⟩⟩
  rw [cy_lt hi]
theorem edge_of (H : Hu S h) {a b : P} (ha : a ∈ h) (hb : b ∈ h) (hne : a ≠ b) (hs : ∀ q ∈ h, 0 ≤ cr a b q) : (a, b) ∈ sd h := by
  obtain ⟨c, hc⟩ := sd_from H.ne ha
  have l2 : 2 ≤ h.length := by
    have := nd_len (l := [a, b]) (m := h) (by simp [hne]) (by simp [ha, hb])
    simpa using this
  have n1 := sd_ne H.nd l2 hc
  have cm := (mem_sd hc).2
  by_cases cb : c = b
  · rw [← cb]; exact hc
  · have k1 := sd_le H hc (cv_self hb)
    have k2 := hs c cm
    have k3 := H.ncol ha cm hb n1 cb hne
    have : cr a b c = -cr a c b := by unfold cr; grind
    grind
theorem face_pt (H : Hu S h) (l2 : 2 ≤ h.length) (he : e ∈ sd h) {c : P} (hc : c ∈ h) (h0 : cr e.1 e.2 c = 0) : c = e.1 ∨ c = e.2 := by
  have n1 := sd_ne H.nd l2 he
  obtain ⟨m1, m2⟩ := mem_sd he
  apply Classical.byContradiction
  intro hno
  have n2 : ¬ c = e.1 := fun z => hno (.inl z)
  have n3 : ¬ c = e.2 := fun z => hno (.inr z)
  exact H.ncol m1 m2 hc n1 (Ne.symm n3) (Ne.symm n2) h0
/-! cutting -/
def lo (u : P × Rat) (e : P × P) : P × P := (if 0 < ab u e.1 then xp u e else e.1, if 0 < ab u e.2 then xp u e else e.2)
def Ng (u : P × Rat) (e : P × P) : Prop := ab u e.1 < 0 ∨ ab u e.2 < 0
instance (u : P × Rat) (e : P × P) : Decidable (Ng u e) := inferInstanceAs (Decidable (_ ∨ _))
def op (u : P × Rat) : P × Rat := (ng u.1, -u.2)
theorem ab_op (u : P × Rat) (q : P) : ab (op u) q = -ab u q := by unfold ab op; rw [al_ng]; grind
theorem op_op (u : P × Rat) : op (op u) = u := by unfold op; rw [ng_ng, Rat.neg_neg]
theorem chg_op : Chg (op u) e ↔ Chg u e := by unfold Chg; rw [ab_op, ab_op]; grind
theorem xp_op (c : Chg u e) : xp (op u) e = xp u e := by
  unfold xp
  rw [ab_op, ab_op]
  have d : ab u e.1 - ab u e.2 ≠ 0 := by unfold Chg at c; grind
  have : -ab u e.1 / (-ab u e.1 - -ab u e.2) = ab u e.1 / (ab u e.1 - ab u e.2) := by grind
  rw [this]
theorem xp_t (c : Chg u e) : ∃ t : Rat, 0 < t ∧ 0 < 1 - t ∧ xp u e = (e.1.1 + t * (e.2.1 - e.1.1), e.1.2 + t * (e.2.2 - e.1.2)) := by
  refine ⟨ab u e.1 / (ab u e.1 - ab u e.2), ?_, ?_, rfl⟩
  · have d : ab u e.1 - ab u e.2 ≠ 0 := by unfold Chg at c; grind
    have et : ab u e.1 / (ab u e.1 - ab u e.2) * (ab u e.1 - ab u e.2) = ab u e.1 := by grind
    generalize ab u e.1 / (ab u e.1 - ab u e.2) = t at *
    rcases c with ⟨a, b⟩ | ⟨a, b⟩
    · exact pos_of_mul (c := ab u e.2 - ab u e.1) (by grind) (by grind)
    · exact pos_of_mul (c := ab u e.1 - ab u e.2) (by grind) (by rw [et]; grind)
  · have d : ab u e.1 - ab u e.2 ≠ 0 := by unfold Chg at c; grind
    have et : ab u e.1 / (ab u e.1 - ab u e.2) * (ab u e.1 - ab u e.2) = ab u e.1 := by grind
    generalize ab u e.1 / (ab u e.1 - ab u e.2) = t at *
    rcases c with ⟨a, b⟩ | ⟨a, b⟩
    · exact pos_of_mul (c := ab u e.2 - ab u e.1) (by grind) (by grind)
    · exact pos_of_mul (c := ab u e.1 - ab u e.2) (by grind) (by grind)
theorem cr_seg1 (a b q : P) (t : Rat) : cr a (a.1 + t * (b.1 - a.1), a.2 + t * (b.2 - a.2)) q = t * cr a b q := by unfold cr; grind
theorem cr_seg2 (a b q : P) (t : Rat) : cr (a.1 + t * (b.1 - a.1), a.2 + t * (b.2 - a.2)) b q = (1 - t) * cr a b q := by unfold cr; grind
theorem cr_seg3 (a b c d : P) (t : Rat) : cr c d (a.1 + t * (b.1 - a.1), a.2 + t * (b.2 - a.2)) = (1 - t) * cr c d a + t * cr c d b := by unfold cr; grind
theorem xp_line (c : Chg u e) : cr e.1 e.2 (xp u e) = 0 := by
  obtain ⟨t, _, _, et⟩ := xp_t c
  rw [et, cr_seg3, cr_aba, cr_abb]
  grind
theorem xp_sw (c : Chg u e) : xp u (e.2, e.1) = xp u e := by
  have d : ab u e.1 - ab u e.2 ≠ 0 := by unfold Chg at c; grind
  have d' : ab u e.2 - ab u e.1 ≠ 0 := by grind
  unfold xp
  refine Prod.ext ?_ ?_
  · show e.2.1 + ab u e.2 / (ab u e.2 - ab u e.1) * (e.1.1 - e.2.1) = e.1.1 + ab u e.1 / (ab u e.1 - ab u e.2) * (e.2.1 - e.1.1)
    grind
  · show e.2.2 + ab u e.2 / (ab u e.2 - ab u e.1) * (e.1.2 - e.2.2) = e.1.2 + ab u e.1 / (ab u e.1 - ab u e.2) * (e.2.2 - e.1.2)
    grind
theorem chg_ne' (c : Chg u e) : e.1 ≠ e.2 := fun z => by unfold Chg at c; rw [z] at c; grind
theorem two_of (H : Hu S h) {a b : P} (ha : a ∈ h) (hb : b ∈ h) (hne : a ≠ b) : 2 ≤ h.length := by
  have := nd_len (l := [a, b]) (m := h) (by simp [hne]) (by simp [ha, hb])
  simpa using this
theorem xp_face (H : Hu S h) (he : e ∈ sd h) (he' : e' ∈ sd h) (c : Chg u e) (c' : Chg u e') (h0 : cr e.1 e.2 (xp u e') = 0) : xp u e' = xp u e := by
  obtain ⟨m1, m2⟩ := mem_sd he'
  have l2 := two_of H m1 m2 (chg_ne' c')
  obtain ⟨t, t0, t1, et⟩ := xp_t c'
  rw [et, cr_seg3] at h0
  have k1 := sd_le H he (cv_self m1)
  have k2 := sd_le H he (cv_self m2)
  have p1 := Rat.mul_nonneg (Rat.le_of_lt t1) k1
  have p2 := Rat.mul_nonneg (Rat.le_of_lt t0) k2
  have z1 : (1 - t) * cr e.1 e.2 e'.1 = 0 := by grind
  have z2 : t * cr e.1 e.2 e'.2 = 0 := by grind
  have z1 := (Rat.mul_eq_zero.mp z1).resolve_left (by grind)
  have z2 := (Rat.mul_eq_zero.mp z2).resolve_left (by grind)
  have n := chg_ne' c'
  rcases face_pt H l2 he m1 z1 with a1 | a1 <;> rcases face_pt H l2 he m2 z2 with a2 | a2
  · exact absurd (a1.trans a2.symm) n
  · rw [show e' = e from Prod.ext a1 a2]
  · rw [show e' = (e.2, e.1) from Prod.ext a1 a2, xp_sw c]
  · exact absurd (a1.trans a2.symm) n
theorem cut_on (H : Hu S h) (he : e ∈ sd h) (c : Chg u e) {x : P} (hx : x ∈ cutP h u) (h0 : cr e.1 e.2 x = 0) : x = xp u e ∨ (ab u x < 0) := by
  obtain ⟨m1, m2⟩ := mem_sd he
  rcases mem_cut.mp hx with ⟨h1, h2⟩ | ⟨e', he', c', rfl⟩
  · right
    rcases face_pt H (two_of H m1 m2 (chg_ne' c)) he h1 h0 with rfl | rfl
    · unfold Chg at c; grind
    · unfold Chg at c; grind
  · exact .inl (xp_face H he he' c c' h0)
theorem z_w {r x : Rat} (hr : 0 ≤ r) (h : r * x = 0) : r = 0 ∨ x = 0 := Rat.mul_eq_zero.mp h
theorem mem_T (H : Hu S h) (hn : cutP h u ≠ []) {x : P} : x ∈ HU (cutP h u) ↔ x ∈ cutP h u := by
  have HT := HU_ok hn
  refine ⟨HT.sub x, fun hx => ?_⟩
  refine HT.corner.mpr ⟨hx, fun k => ?_⟩
  have k := k.cv
  rcases mem_cut.mp hx with ⟨h1, h2⟩ | ⟨e, he, c, rfl⟩
  · have H' := LawS.Hu.extend H (X := cutP h u) fun x hx => (cut_sub hx).1
    exact H'.ext h1 (k.mono fun y hy => mem_wo.mpr ⟨List.mem_append_left _ (mem_wo.mp hy).1, (mem_wo.mp hy).2⟩)
  · obtain ⟨a, b, d, ha, hb, hd, r, s, t, hr, hs, ht, h1, h2, h3⟩ := k
    have fx := xp_line c
    have lin := cr_lin e.1 e.2 a b d (xp u e) r s t h1 h2 h3
    have ge : ∀ y ∈ wo (cutP h u) (xp u e), 0 ≤ cr e.1 e.2 y := fun y hy => sd_le H he (cut_sub (mem_wo.mp hy).1).1
    have p1 := Rat.mul_nonneg hr (ge a ha)
    have p2 := Rat.mul_nonneg hs (ge b hb)
    have p3 := Rat.mul_nonneg ht (ge d hd)
    have ng : ∀ y ∈ wo (cutP h u) (xp u e), cr e.1 e.2 y = 0 → 0 < -ab u y := fun y hy h0 => by
      have := (cut_on H he c (mem_wo.mp hy).1 h0).resolve_left (mem_wo.mp hy).2
      grind
    have w : ∀ {r : Rat} {y : P}, 0 ≤ r → y ∈ wo (cutP h u) (xp u e) → r * cr e.1 e.2 y = 0 → r = 0 ∨ 0 < r * -ab u y := fun hr hy h0 => by
      rcases z_w hr h0 with z | z
      · exact .inl z
      · exact w_pos hr (ng _ hy z)
    have := w_sum h1 (w hr ha (by grind)) (w hs hb (by grind)) (w ht hd (by grind))
    have e0 := xp_z c
    have : ab u (xp u e) = r * ab u a + s * ab u b + t * ab u d := by
      unfold ab al
      rw [h2, h3]
      grind
    grind
theorem lo_sd (H : Hu S h) (hn : cutP h u ≠ []) (he : e ∈ sd h) (hN : Ng u e) : lo u e ∈ sd (HU (cutP h u)) := by
  have HT := HU_ok hn
  obtain ⟨m1, m2⟩ := mem_sd he
  have key : ∀ q ∈ HU (cutP h u), 0 ≤ cr e.1 e.2 q := fun q hq => sd_le H he (cut_sub (HT.sub q hq)).1
  have inT : ∀ x ∈ h, ab u x ≤ 0 → x ∈ HU (cutP h u) := fun x hx h0 => (mem_T H hn).mpr (mem_cut.mpr (.inl ⟨hx, h0⟩))
  have inX : Chg u e → xp u e ∈ HU (cutP h u) := fun c => (mem_T H hn).mpr (mem_cut.mpr (.inr ⟨e, he, c, rfl⟩))
  by_cases c1 : 0 < ab u e.1
  · have c2 : ab u e.2 < 0 := by unfold Ng at hN; grind
    have c : Chg u e := .inr ⟨c1, c2⟩
    have el : lo u e = (xp u e, e.2) := by unfold lo; rw [if_pos c1, if_neg (by grind)]
    rw [el]
    refine edge_of HT (inX c) (inT _ m2 (by grind)) (fun z => ?_) fun q hq => ?_
    · have := xp_z c; rw [z] at this; grind
    · obtain ⟨t, t0, t1, et⟩ := xp_t c
      rw [et, cr_seg2]
      exact Rat.mul_nonneg (Rat.le_of_lt t1) (key q hq)
  · by_cases c2 : 0 < ab u e.2
    · have c3 : ab u e.1 < 0 := by unfold Ng at hN; grind
      have c : Chg u e := .inl ⟨c3, c2⟩
      have el : lo u e = (e.1, xp u e) := by unfold lo; rw [if_neg c1, if_pos c2]
      rw [el]
      refine edge_of HT (inT _ m1 (by grind)) (inX c) (fun z => ?_) fun q hq => ?_
      · have := xp_z c; rw [← z] at this; grind
      · obtain ⟨t, t0, t1, et⟩ := xp_t c
        rw [et, cr_seg1]
        exact Rat.mul_nonneg (Rat.le_of_lt t0) (key q hq)
    · have el : lo u e = e := by unfold lo; rw [if_neg c1, if_neg c2]
      rw [el]
      by_cases z : e.1 = e.2
      · have : h.length = 1 := by
          apply Classical.byContradiction
          intro h1
          have l0 := List.length_pos_iff.mpr H.ne
          exact sd_ne H.nd (by omega) he z
        have eh : cutP h u = h := by
          obtain ⟨x, rfl⟩ := List.length_eq_one_iff.mp this
          have ex : e.1 = x := by simpa using m1
          have ey : e.2 = x := by simpa using m2
          unfold cutP
          have e0 : sd [x] = [(x, x)] := rfl
          rw [e0, List.filterMap_cons, List.filterMap_nil, if_neg (by unfold Chg; grind), List.filter_cons, if_pos (by rw [← ex]; simpa using c1)]
          rfl
        rw [eh, H.fix]
        exact he
      · exact edge_of HT (inT _ m1 (by grind)) (inT _ m2 (by grind)) z key
theorem lo_ng1 (h : ab u e.1 < 0) : (lo u e).1 = e.1 := by unfold lo; exact if_neg (by grind)
theorem lo_ng2 (h : ab u e.2 < 0) : (lo u e).2 = e.2 := by unfold lo; exact if_neg (by grind)
theorem lo_back1 (hN : Ng u e) (h : ab u (lo u e).1 < 0) : ab u e.1 < 0 := by
  unfold lo at h
  by_cases c1 : 0 < ab u e.1
  · rw [if_pos c1] at h
    have c : Chg u e := .inr ⟨c1, by unfold Ng at hN; grind⟩
    rw [xp_z c] at h
    grind
  · rw [if_neg c1] at h; exact h
theorem lo_back2 (hN : Ng u e) (h : ab u (lo u e).2 < 0) : ab u e.2 < 0 := by
  unfold lo at h
  by_cases c1 : 0 < ab u e.2
  · rw [if_pos c1] at h
    have c : Chg u e := .inl ⟨by unfold Ng at hN; grind, c1⟩
    rw [xp_z c] at h
    grind
  · rw [if_neg c1] at h; exact h
theorem lo_inj (H : Hu S h) (he : e ∈ sd h) (he' : e' ∈ sd h) (hN : Ng u e) (hN' : Ng u e') (eq : lo u e = lo u e') : e = e' := by
  rcases hN with k | k
  · have k2 := lo_back1 hN' (by rw [← eq, lo_ng1 k]; exact k)
    have : e.1 = e'.1 := by rw [← lo_ng1 k, ← lo_ng1 k2, eq]
    have := sd_out H.nd (c := e.1) (a := e.2) (b := e'.2) he (by rw [this]; exact he')
    exact Prod.ext ‹_› this
  · have k2 := lo_back2 hN' (by rw [← eq, lo_ng2 k]; exact k)
    have : e.2 = e'.2 := by rw [← lo_ng2 k, ← lo_ng2 k2, eq]
    have := sd_in H.nd (c := e.2) (a := e.1) (b := e'.1) he (by rw [this]; exact he')
    exact Prod.ext this ‹_›
theorem ng_T (H : Hu S h) {x : P} (hx : x ∈ cutP h u) (h0 : ab u x < 0) : x ∈ h := by
  rcases mem_cut.mp hx with ⟨h1, h2⟩ | ⟨e, he, c, rfl⟩
  · exact h1
  · have := xp_z c; grind
theorem sd_lo (H : Hu S h) (hn : cutP h u ≠ []) (he : e ∈ sd (HU (cutP h u))) (hN : Ng u e) : ∃ f ∈ sd h, Ng u f ∧ lo u f = e := by
  have HT := HU_ok hn
  obtain ⟨m1, m2⟩ := mem_sd he
  rcases hN with k | k
  · obtain ⟨b, hb⟩ := sd_from H.ne (ng_T H (HT.sub _ m1) k)
    have N : Ng u (e.1, b) := .inl k
    refine ⟨_, hb, N, ?_⟩
    have k1 := lo_sd H hn hb N
    have k2 : (lo u (e.1, b)).1 = e.1 := lo_ng1 k
    have k3 : (e.1, (lo u (e.1, b)).2) ∈ sd (HU (cutP h u)) := by
      have : lo u (e.1, b) = (e.1, (lo u (e.1, b)).2) := Prod.ext k2 rfl
      rw [← this]
      exact k1
    exact Prod.ext k2 (sd_out HT.nd k3 he)
  · obtain ⟨b, hb⟩ := sd_to H.ne (ng_T H (HT.sub _ m2) k)
    have N : Ng u (b, e.2) := .inr k
    refine ⟨_, hb, N, ?_⟩
    have k1 := lo_sd H hn hb N
    have k2 : (lo u (b, e.2)).2 = e.2 := lo_ng2 k
    have k3 : ((lo u (b, e.2)).1, e.2) ∈ sd (HU (cutP h u)) := by
      have : lo u (b, e.2) = ((lo u (b, e.2)).1, e.2) := Prod.ext rfl k2
      rw [← this]
      exact k1
    exact Prod.ext (sd_in HT.nd k3 he) k2
theorem on_col (hu : u.1 ≠ (0, 0)) {a b c : P} (ha : ab u a = 0) (hb : ab u b = 0) (hc : ab u c = 0) : cr a b c = 0 := by
  rw [cr_vc]
  exact par_z hu (by rw [al_sub]; unfold ab at ha hb; grind) (by rw [al_sub]; unfold ab at ha hc; grind)
theorem nd_map {α β : Type} {f : α → β} : ∀ {l : List α}, l.Nodup → (∀ x ∈ l, ∀ y ∈ l, f x = f y → x = y) → (l.map f).Nodup
  | [], _, _ => by simp
  | x :: l, h, k => by
    rw [List.map_cons, List.nodup_cons]
    have h := List.nodup_cons.mp h
    refine ⟨fun hm => ?_, nd_map h.2 fun a ha b hb => k a (List.mem_cons_of_mem _ ha) b (List.mem_cons_of_mem _ hb)⟩
    obtain ⟨y, hy, e⟩ := List.mem_map.mp hm
    have := k y (List.mem_cons_of_mem _ hy) x (by simp) e
    exact h.1 (by rw [← this]; exact hy)
/-- the area of what is left, as a sum over the sides of the whole -/
theorem A2_T (H : Hu S h) (hn : cutP h u ≠ []) (hu : u.1 ≠ (0, 0)) (ho : ab u o = 0) : A2 (sd (HU (cutP h u))) = rs ((sd h).map fun e => if Ng u e then cr o (lo u e).1 (lo u e).2 else 0) := by
  have HT := HU_ok hn
  have p : (((sd h).filter fun e => decide (Ng u e)).map (lo u)).Perm ((sd (HU (cutP h u))).filter fun e => decide (Ng u e)) := by
    refine (List.perm_ext_iff_of_nodup ?_ ?_).mpr fun e => ?_
    · refine nd_map ((sd_nd H.nd).filter _) fun a ha b hb eq => ?_
      have ha := List.mem_filter.mp ha
      have hb := List.mem_filter.mp hb
      exact lo_inj H ha.1 hb.1 (by simpa using ha.2) (by simpa using hb.2) eq
    · exact (sd_nd HT.nd).filter _
    · rw [List.mem_map, List.mem_filter]
      constructor
      · rintro ⟨f, hf, rfl⟩
        have hf := List.mem_filter.mp hf
        have hN : Ng u f := by simpa using hf.2
        refine ⟨lo_sd H hn hf.1 hN, ?_⟩
        have : Ng u (lo u f) := by
          rcases hN with k | k
          · exact .inl (by rw [lo_ng1 k]; exact k)
          · exact .inr (by rw [lo_ng2 k]; exact k)
        simpa using this
      · rintro ⟨h1, h2⟩
        obtain ⟨f, hf, N, eq⟩ := sd_lo H hn h1 (by simpa using h2)
        exact ⟨f, List.mem_filter.mpr ⟨hf, by simpa using N⟩, eq⟩
  rw [rs_if, A2_o o]
  have e1 : rs ((sd (HU (cutP h u))).map fun e => cr o e.1 e.2) = rs ((sd (HU (cutP h u))).map fun e => if Ng u e then cr o e.1 e.2 else 0) := by
    refine rs_congr fun e he => ?_
    by_cases c : Ng u e
    · rw [if_pos c]
    · rw [if_neg c]
      obtain ⟨m1, m2⟩ := mem_sd he
      have a1 := (cut_sub (HT.sub _ m1)).2
      have a2 := (cut_sub (HT.sub _ m2)).2
      unfold Ng at c
      exact on_col hu ho (by grind) (by grind)
  rw [e1, rs_if]
  have := rs_perm (p.map fun e => cr o e.1 e.2)
  rw [List.map_map] at this
  exact this.symm
theorem A2_small (H : Hu S h) (hl : h.length ≤ 2) : A2 (sd h) = 0 := by
  have := area_small hl
  grind
def oA (l : List P) : Rat := if l = [] then 0 else A2 (sd (HU l)) / 2
theorem cut_all (H : Hu S h) (hp : ∀ p ∈ h, ab u p ≤ 0) : cutP h u = h := by
  unfold cutP
  rw [List.filter_eq_self.mpr fun p hp' => by have := hp p hp'; simp; grind, List.filterMap_eq_nil_iff.mpr fun e he => ?_, List.append_nil]
  rw [if_neg]
  have k1 := hp _ (mem_sd he).1
  have k2 := hp _ (mem_sd he).2
  unfold Chg
  grind
theorem cut_flat (H : Hu S h) (hu : u.1 ≠ (0, 0)) (hp : ∀ p ∈ h, 0 ≤ ab u p) : oA (cutP h u) = 0 := by
  unfold oA
  by_cases c : cutP h u = []
  · exact if_pos c
  · rw [if_neg c]
    have HT := HU_ok c
    have z : ∀ x ∈ HU (cutP h u), ab u x = 0 := fun x hx => by
      rcases mem_cut.mp (HT.sub _ hx) with ⟨h1, h2⟩ | ⟨e, he, c, rfl⟩
      · have := hp x h1; grind
      · exact xp_z c
    have : (HU (cutP h u)).length ≤ 2 := by
      apply Classical.byContradiction
      intro h3
      have t := HT.tn (by omega) 0
      rw [on_col hu (z _ (cy_mem HT.ne _)) (z _ (cy_mem HT.ne _)) (z _ (cy_mem HT.ne _))] at t
      exact absurd t (by decide)
    rw [A2_small HT this]
    grind
theorem cut_area (H : Hu S h) (hu : u.1 ≠ (0, 0)) : oA (cutP h u) + oA (cutP h (op u)) = A2 (sd h) / 2 := by
  have hu' : (op u).1 ≠ (0, 0) := fun z => hu (by
    have : ng u.1 = (0, 0) := z
    rw [← ng_ng u.1, this]
    rfl)
  by_cases c1 : ∀ p ∈ h, ab u p ≤ 0
  · rw [cut_flat H hu' (fun p hp => by rw [ab_op]; have := c1 p hp; grind), cut_all H c1]
    unfold oA
    rw [if_neg H.ne, H.fix]
    grind
  · by_cases c2 : ∀ p ∈ h, 0 ≤ ab u p
    · rw [cut_flat H hu c2, cut_all (u := op u) H (fun p hp => by rw [ab_op]; have := c2 p hp; grind)]
      unfold oA
      rw [if_neg H.ne, H.fix]
      grind
    · have ⟨p, hp, p0⟩ : ∃ p ∈ h, ab u p < 0 := by
        apply Classical.byContradiction
        intro hno
        refine c2 fun p hp => ?_
        apply Classical.byContradiction
        intro h0
        exact hno ⟨p, hp, by grind⟩
      have ⟨q, hq, q0⟩ : ∃ q ∈ h, 0 < ab u q := by
        apply Classical.byContradiction
        intro hno
        refine c1 fun p hp => ?_
        apply Classical.byContradiction
        intro h0
        exact hno ⟨p, hp, by grind⟩
      have n1 : cutP h u ≠ [] := fun z => by
        have : p ∈ cutP h u := mem_cut.mpr (.inl ⟨hp, by grind⟩)
        rw [z] at this
        exact absurd this (by simp)
      have n2 : cutP h (op u) ≠ [] := fun z => by
        have : q ∈ cutP h (op u) := mem_cut.mpr (.inl ⟨hq, by rw [ab_op]; grind⟩)
        rw [z] at this
        exact absurd this (by simp)
      obtain ⟨o, ho⟩ : ∃ o, ab u o = 0 := by
        have np := nn_pos hu
        refine ⟨sc (u.2 / nn u.1) u.1, ?_⟩
        unfold ab
        have : al (sc (u.2 / nn u.1) u.1) u.1 = u.2 / nn u.1 * nn u.1 := by unfold al sc nn; grind
        rw [this]
        have : nn u.1 ≠ 0 := by grind
        grind
      have ho' : ab (op u) o = 0 := by rw [ab_op, ho]; decide
      unfold oA
      rw [if_neg n1, if_neg n2, A2_T H n1 hu ho, A2_T H n2 hu' ho', A2_o o]
      have : rs ((sd h).map fun e => cr o e.1 e.2) = rs ((sd h).map fun e => (if Ng u e then cr o (lo u e).1 (lo u e).2 else 0) + (if Ng (op u) e then cr o (lo (op u) e).1 (lo (op u) e).2 else 0)) := by
        refine rs_congr fun e he => ?_
        have no : Ng (op u) e ↔ (0 < ab u e.1 ∨ 0 < ab u e.2) := by unfold Ng; rw [ab_op, ab_op]; grind
        have l1 : ∀ {v : P × Rat}, 0 < ab v e.1 → ¬ 0 < ab v e.2 → lo v e = (xp v e, e.2) := fun a b => by unfold lo; rw [if_pos a, if_neg b]
        have l2 : ∀ {v : P × Rat}, ¬ 0 < ab v e.1 → 0 < ab v e.2 → lo v e = (e.1, xp v e) := fun a b => by unfold lo; rw [if_neg a, if_pos b]
        have l3 : ∀ {v : P × Rat}, ¬ 0 < ab v e.1 → ¬ 0 < ab v e.2 → lo v e = e := fun a b => by unfold lo; rw [if_neg a, if_neg b]
        have o1 := ab_op u e.1
        have o2 := ab_op u e.2
        by_cases a1 : ab u e.1 < 0
        · by_cases b1 : 0 < ab u e.2
          · have c : Chg u e := .inl ⟨a1, b1⟩
            rw [if_pos (show Ng u e from .inl a1), if_pos (no.mpr (.inr b1)), l2 (by grind) b1, l1 (v := op u) (by grind) (by grind), xp_op c]
            obtain ⟨t, _, _, et⟩ := xp_t c
            rw [et]
            unfold cr
            grind
          · rw [if_pos (show Ng u e from .inl a1), if_neg (fun k => by have := no.mp k; grind), l3 (by grind) b1]
            grind
        · by_cases b1 : ab u e.2 < 0
          · by_cases a2 : 0 < ab u e.1
            · have c : Chg u e := .inr ⟨a2, b1⟩
              rw [if_pos (show Ng u e from .inr b1), if_pos (no.mpr (.inl a2)), l1 a2 (by grind), l2 (v := op u) (by grind) (by grind), xp_op c]
              obtain ⟨t, _, _, et⟩ := xp_t c
              rw [et]
              unfold cr
              grind
            · rw [if_pos (show Ng u e from .inr b1), if_neg (fun k => by have := no.mp k; grind), l3 a2 (by grind)]
              grind
          · rw [if_neg (show ¬ Ng u e from fun k => by unfold Ng at k; grind)]
            by_cases c : 0 < ab u e.1 ∨ 0 < ab u e.2
            · rw [if_pos (no.mpr c), l3 (v := op u) (by grind) (by grind)]
              grind
            · rw [if_neg (fun k => c (no.mp k)), on_col hu ho (by grind) (by grind)]
              grind
      rw [this, rs_add]
      grind
end
end LawS

namespace LawS
open Tw L2 LawP Hl
section
variable {a b c q : P} {l : List P} {n m : Nat}
theorem lturn2_spec (ha : Zp n a) (hb : Zp n b) (hc : Zp m c) (h : 6 * n + 2 * m + 5 ≤ 199) : sem__law_turn [pT a, pT b, pT c] = some (.int (cr a b c).num, []) := by
  refine wc_eq ?_
  unfold sem__law_turn F__law_turn
  have s1 := sz_sub hb.1 ha.1
  have s2 := sz_sub hc.2 ha.2
  have s3 := sz_sub hb.2 ha.2
  have s4 := sz_sub hc.1 ha.1
  dsimp? [ixP0, ixP1, ixQ0, ixQ1, r_eqP, r_neP, r_eqQ, r_neQ, r_eqL, r_neL, r_inP, r_ninP, lenP, slTo, slFrom, slLast, slLastN, revP, isLP, ↓sAP, ↓sLP, qT_0, lminus_spec hb.1 ha.1 (by omega), lminus_spec hc.2 ha.2 (by omega), lminus_spec hb.2 ha.2 (by omega), lminus_spec hc.1 ha.1 (by omega), ltimes_spec s1 s2 (by omega), ltimes_spec s3 s4 (by omega), lminus_spec (sz_mul s1 s2) (sz_mul s3 s4) (by omega)]
  rfl
theorem lon2_spec (ha : Zp n a) (hb : Zp n b) (hq : Zp m q) (h : 6 * n + 2 * m + 5 ≤ 199) : ∃ r, sem__law_on [pT a, pT b, pT q] = some (.bl r, []) ∧ (r = true ↔ On a b q) := by
  suffices h : @WC (sem__law_on [pT a, pT b, pT q]) ⟨fun t us => us = [] ∧ ∃ r, t = .bl r ∧ (r = true ↔ On a b q)⟩ by
    obtain ⟨t, us, e, rfl, b, rfl, k⟩ := h
    exact ⟨b, e, k⟩
  unfold sem__law_on F__law_on
  dsimp? [ixP0, ixP1, ixQ0, ixQ1, r_eqP, r_neP, r_eqQ, r_neQ, r_eqL, r_neL, r_inP, r_ninP, lenP, slTo, slFrom, slLast, slLastN, revP, isLP, ↓sAP, ↓sLP, qT_0, lturn2_spec ha hb hq h]
  refine br_d (fun c => ?_) (fun c => ?_)
  · have c0 : cr a b q = 0 := num0.mp c
    have rl : rngT 0 2 = [T.int 0, T.int 1] := rfl
    have e : On a b q ↔ Box a b q := ⟨fun h => h.2, fun h => ⟨c0, h⟩⟩
    rw [e]
    unfold Box
    dsimp? [ixP0, ixP1, ixQ0, ixQ1, r_eqP, r_neP, r_eqQ, r_neQ, r_eqL, r_neL, r_inP, r_ninP, lenP, slTo, slFrom, slLast, slLastN, revP, isLP, ↓sAP, ↓sLP, qT_0, show Int.toNat 2 = 2 from rfl, rl, ↓wf_cons, ↓wf_nil, lunder_spec hq.1 ha.1 (by omega), lunder_spec hq.1 hb.1 (by omega), lunder_spec ha.1 hq.1 (by omega), lunder_spec hb.1 hq.1 (by omega), lunder_spec hq.2 ha.2 (by omega), lunder_spec hq.2 hb.2 (by omega), lunder_spec ha.2 hq.2 (by omega), lunder_spec hb.2 hq.2 (by omega)]
    repeat' first
      | refine br_d (fun _ => ?_) (fun _ => ?_)
      | dsimp? [ixP0, ixP1, ixQ0, ixQ1, r_eqP, r_neP, r_eqQ, r_neQ, r_eqL, r_neL, r_inP, r_ninP, lenP, slTo, slFrom, slLast, slLastN, revP, isLP, ↓sAP, ↓sLP, qT_0, show Int.toNat 2 = 2 from rfl, rl, ↓wf_cons, ↓wf_nil, lunder_spec hq.1 ha.1 (by omega), lunder_spec hq.1 hb.1 (by omega), lunder_spec ha.1 hq.1 (by omega), lunder_spec hb.1 hq.1 (by omega), lunder_spec hq.2 ha.2 (by omega), lunder_spec hq.2 hb.2 (by omega), lunder_spec ha.2 hq.2 (by omega), lunder_spec hb.2 hq.2 (by omega)]
    all_goals (refine ⟨_, rfl, ?_⟩; simp only [Bool.false_eq_true, false_iff, true_iff]; grind)
  · dsimp? [ixP0, ixP1, ixQ0, ixQ1, r_eqP, r_neP, r_eqQ, r_neQ, r_eqL, r_neL, r_inP, r_ninP, lenP, slTo, slFrom, slLast, slLastN, revP, isLP, ↓sAP, ↓sLP, qT_0]
    refine ⟨_, rfl, ?_⟩
    simp only [Bool.false_eq_true, false_iff]
    exact fun h => c (num0.mpr h.1)
theorem linside2_spec (hl : l.length ≤ 1000) (hz : ∀ p ∈ l, Zp n p) (hq : Zp m q) (h : 6 * n + 2 * m + 5 ≤ 199) (h5 : n ≤ 24) : ∃ r, sem__law_inside [pL l, pT q] = some (.bl r, []) ∧ (r = true ↔ In l q) := by
  suffices h : @WC (sem__law_inside [pL l, pT q]) ⟨fun t us => us = [] ∧ ∃ r, t = .bl r ∧ (r = true ↔ In l q)⟩ by
    obtain ⟨t, us, e, rfl, b, rfl, k⟩ := h
    exact ⟨b, e, k⟩
  have zg : ∀ {i}, i < l.length → Zp n (g l i) := fun hi => hz _ (g_mem hi)
  rw [in_ix]
  unfold sem__law_inside F__law_inside
  dsimp? [ixP0, ixP1, ixQ0, ixQ1, r_eqP, r_neP, r_eqQ, r_neQ, r_eqL, r_neL, r_inP, r_ninP, lenP, slTo, slFrom, slLast, slLastN, revP, isLP, ↓sAP, ↓sLP, qT_0]
  refine sd_i (by omega) ?_
  dsimp? [ixP0, ixP1, ixQ0, ixQ1, r_eqP, r_neP, r_eqQ, r_neQ, r_eqL, r_neL, r_inP, r_ninP, lenP, slTo, slFrom, slLast, slLastN, revP, isLP, ↓sAP, ↓sLP, qT_0]
  rw [Int.toNat_natCast]
  refine wf_rng (I := fun i γ => γ = [some (pL l), some (pT q), none, none, none, none] ∧ ∀ a, a < i → ∀ b, a ≤ b → b < l.length → ¬ On (g l a) (g l b) q ∧ ∀ c, b < c → c < l.length → ¬ Tri (g l a) (g l b) (g l c) q) ⟨rfl, fun a h => absurd h (by omega)⟩ ?_ ?_
  · rintro a γ ha ⟨rfl, hA⟩
    rw [Int.zero_add]
    dsimp? [ixP0, ixP1, ixQ0, ixQ1, r_eqP, r_neP, r_eqQ, r_neQ, r_eqL, r_neL, r_inP, r_ninP, lenP, slTo, slFrom, slLast, slLastN, revP, isLP, ↓sAP, ↓sLP, qT_0]
    refine sd_i (by omega) ?_
    dsimp? [ixP0, ixP1, ixQ0, ixQ1, r_eqP, r_neP, r_eqQ, r_neQ, r_eqL, r_neL, r_inP, r_ninP, lenP, slTo, slFrom, slLast, slLastN, revP, isLP, ↓sAP, ↓sLP, qT_0]
    rw [show ((l.length : Int) - (a : Int)).toNat = l.length - a by omega]
    refine wf_rng (I := fun j γ => ∃ x3 x4 x5, γ = [some (pL l), some (pT q), some (.int a), x3, x4, x5] ∧ ∀ b, a ≤ b → b < a + j → ¬ On (g l a) (g l b) q ∧ ∀ c, b < c → c < l.length → ¬ Tri (g l a) (g l b) (g l c) q) ⟨_, _, _, rfl, fun b h1 h2 => absurd h2 (by omega)⟩ ?_ ?_
    · rintro j γ hj ⟨x3, x4, x5, rfl, hB⟩
      have hb : a + j < l.length := by omega
      rw [show (a : Int) + (j : Int) = ((a + j : Nat) : Int) from rfl]
      obtain ⟨r, er, kr⟩ := lon2_spec (zg ha) (zg hb) hq h
      dsimp? [ixP0, ixP1, ixQ0, ixQ1, r_eqP, r_neP, r_eqQ, r_neQ, r_eqL, r_neL, r_inP, r_ninP, lenP, slTo, slFrom, slLast, slLastN, revP, isLP, ↓sAP, ↓sLP, qT_0, ixL ha, ixL hb, er]
      refine br_i (fun c => ?_) (fun c => ?_)
      · dsimp? [ixP0, ixP1, ixQ0, ixQ1, r_eqP, r_neP, r_eqQ, r_neQ, r_eqL, r_neL, r_inP, r_ninP, lenP, slTo, slFrom, slLast, slLastN, revP, isLP, ↓sAP, ↓sLP, qT_0]
        exact ⟨_, rfl, by simp only [true_iff]; exact .inl ⟨a, a + j, by omega, hb, kr.mp c⟩⟩
      · have nO : ¬ On (g l a) (g l (a + j)) q := fun k => by rw [kr.mpr k] at c; cases c
        dsimp? [ixP0, ixP1, ixQ0, ixQ1, r_eqP, r_neP, r_eqQ, r_neQ, r_eqL, r_neL, r_inP, r_ninP, lenP, slTo, slFrom, slLast, slLastN, revP, isLP, ↓sAP, ↓sLP, qT_0]
        refine sd_i (by omega) ?_
        dsimp? [ixP0, ixP1, ixQ0, ixQ1, r_eqP, r_neP, r_eqQ, r_neQ, r_eqL, r_neL, r_inP, r_ninP, lenP, slTo, slFrom, slLast, slLastN, revP, isLP, ↓sAP, ↓sLP, qT_0]
        rw [show ((l.length : Int) - (((a + j : Nat) : Int) + 1)).toNat = l.length - (a + j + 1) by omega]
        refine wf_rng (I := fun k γ => ∃ x4 x5, γ = [some (pL l), some (pT q), some (.int a), some (.int ((a + j : Nat) : Int)), x4, x5] ∧ ∀ c, a + j < c → c < a + j + 1 + k → ¬ Tri (g l a) (g l (a + j)) (g l c) q) ⟨_, _, rfl, fun c h1 h2 => absurd h2 (by omega)⟩ ?_ ?_
        · rintro k γ hk ⟨x4, x5, rfl, hC⟩
          have hc : a + j + 1 + k < l.length := by omega
          rw [show ((a + j : Nat) : Int) + 1 + (k : Int) = ((a + j + 1 + k : Nat) : Int) from rfl]
          have t1 := lturn2_spec (zg ha) (zg hb) hq h
          have t2 := lturn2_spec (zg hb) (zg hc) hq h
          have t3 := lturn2_spec (zg hc) (zg ha) hq h
          have t4 := lturn_spec (zg ha) (zg hb) (zg hc) (by omega)
          dsimp? [ixP0, ixP1, ixQ0, ixQ1, r_eqP, r_neP, r_eqQ, r_neQ, r_eqL, r_neL, r_inP, r_ninP, lenP, slTo, slFrom, slLast, slLastN, revP, isLP, ↓sAP, ↓sLP, qT_0, ixL ha, ixL hb, ixL hc, t1, t2, t3, t4, min3, max3]
          have no : ¬ Tri (g l a) (g l (a + j)) (g l (a + j + 1 + k)) q → ∀ c, a + j < c → c < a + j + 1 + (k + 1) → ¬ Tri (g l a) (g l (a + j)) (g l c) q := fun hn c h1 h2 => by
            by_cases e : c = a + j + 1 + k
            · rw [e]; exact hn
            · exact hC c h1 (by omega)
          refine br_d (fun d => ?_) (fun d => ?_)
          · dsimp? [ixP0, ixP1, ixQ0, ixQ1, r_eqP, r_neP, r_eqQ, r_neQ, r_eqL, r_neL, r_inP, r_ninP, lenP, slTo, slFrom, slLast, slLastN, revP, isLP, ↓sAP, ↓sLP, qT_0]
            exact ⟨_, _, rfl, no fun z => z.1 (num0.mp d)⟩
          · have d0 : cr (g l a) (g l (a + j)) (g l (a + j + 1 + k)) ≠ 0 := fun z => d (num0.mpr z)
            dsimp? [ixP0, ixP1, ixQ0, ixQ1, r_eqP, r_neP, r_eqQ, r_neQ, r_eqL, r_neL, r_inP, r_ninP, lenP, slTo, slFrom, slLast, slLastN, revP, isLP, ↓sAP, ↓sLP, qT_0, ixL ha, ixL hb, ixL hc, t1, t2, t3, t4, min3, max3]
            refine br_d (fun d1 => ?_) (fun d1 => ?_)
            · dsimp? [ixP0, ixP1, ixQ0, ixQ1, r_eqP, r_neP, r_eqQ, r_neQ, r_eqL, r_neL, r_inP, r_ninP, lenP, slTo, slFrom, slLast, slLastN, revP, isLP, ↓sAP, ↓sLP, qT_0]
              refine ⟨_, rfl, ?_⟩
              simp only [true_iff]
              refine .inr ⟨a, a + j, a + j + 1 + k, by omega, by omega, hc, d0, .inl ⟨numnn.mp (by omega), numnn.mp (by omega), numnn.mp (by omega)⟩⟩
            · dsimp? [ixP0, ixP1, ixQ0, ixQ1, r_eqP, r_neP, r_eqQ, r_neQ, r_eqL, r_neL, r_inP, r_ninP, lenP, slTo, slFrom, slLast, slLastN, revP, isLP, ↓sAP, ↓sLP, qT_0, max3]
              refine br_d (fun d2 => ?_) (fun d2 => ?_)
              · dsimp? [ixP0, ixP1, ixQ0, ixQ1, r_eqP, r_neP, r_eqQ, r_neQ, r_eqL, r_neL, r_inP, r_ninP, lenP, slTo, slFrom, slLast, slLastN, revP, isLP, ↓sAP, ↓sLP, qT_0]
                refine ⟨_, rfl, ?_⟩
                simp only [true_iff]
                refine .inr ⟨a, a + j, a + j + 1 + k, by omega, by omega, hc, d0, .inr ⟨numnp.mp (by omega), numnp.mp (by omega), numnp.mp (by omega)⟩⟩
              · dsimp? [ixP0, ixP1, ixQ0, ixQ1, r_eqP, r_neP, r_eqQ, r_neQ, r_eqL, r_neL, r_inP, r_ninP, lenP, slTo, slFrom, slLast, slLastN, revP, isLP, ↓sAP, ↓sLP, qT_0]
                refine ⟨_, _, rfl, no fun z => ?_⟩
                rcases z.2 with ⟨z1, z2, z3⟩ | ⟨z1, z2, z3⟩
                · have := numnn.mpr z1
                  have := numnn.mpr z2
                  have := numnn.mpr z3
                  omega
                · have := numnp.mpr z1
                  have := numnp.mpr z2
                  have := numnp.mpr z3
                  omega
        · rintro γ ⟨x4, x5, rfl, hC⟩
          dsimp? [ixP0, ixP1, ixQ0, ixQ1, r_eqP, r_neP, r_eqQ, r_neQ, r_eqL, r_neL, r_inP, r_ninP, lenP, slTo, slFrom, slLast, slLastN, revP, isLP, ↓sAP, ↓sLP, qT_0]
          refine ⟨_, _, _, rfl, fun b h1 h2 => ?_⟩
          by_cases e : b = a + j
          · rw [e]; exact ⟨nO, fun c h1 h2 => hC c h1 (by omega)⟩
          · exact hB b h1 (by omega)
    · rintro γ ⟨x3, x4, x5, rfl, hB⟩
      dsimp? [ixP0, ixP1, ixQ0, ixQ1, r_eqP, r_neP, r_eqQ, r_neQ, r_eqL, r_neL, r_inP, r_ninP, lenP, slTo, slFrom, slLast, slLastN, revP, isLP, ↓sAP, ↓sLP, qT_0]
      refine fun a' h1 b h2 h3 => ?_
      by_cases e : a' = a
      · subst e; exact hB b h2 (by omega)
      · exact hA a' (by omega) b h2 h3
  · rintro γ ⟨rfl, hA⟩
    dsimp? [ixP0, ixP1, ixQ0, ixQ1, r_eqP, r_neP, r_eqQ, r_neQ, r_eqL, r_neL, r_inP, r_ninP, lenP, slTo, slFrom, slLast, slLastN, revP, isLP, ↓sAP, ↓sLP, qT_0]
    refine ⟨_, rfl, ?_⟩
    simp only [Bool.false_eq_true, false_iff]
    rintro (⟨a, b, h1, h2, k⟩ | ⟨a, b, c, h1, h2, h3, k⟩)
    · exact (hA a (by omega) b h1 h2).1 k
    · exact (hA a (by omega) b h1 (by omega)).2 c h2 h3 k
end
end LawS

namespace Law
open Tw
def c_NOUGHT : T := (.tup [(.int 0), (.int 1)])
/-! frac(p, q): 0 p, 1 q, 2 shared; changed []; new False -/
noncomputable def F_frac : Fs :=
  (sSeq (sAsg 2 (eIf (tOf (eBin gGt (eVar 1) (eLit (.int 0)))) (eCall gGcd (aCons (eVar 0) (aCons (eVar 1) aNil))) (eUn gNeg (eCall gGcd (aCons (eVar 0) (aCons (eVar 1) aNil)))))) (sRet (eTup (aCons (eBin gDiv (eVar 0) (eVar 2)) (aCons (eBin gDiv (eVar 1) (eVar 2)) aNil)))))
noncomputable def sem_frac : Sem' := semOf 3 [] F_frac
/-! plus(a, b): 0 a, 1 b; changed []; new False -/
noncomputable def F_plus : Fs :=
  (sRet (eOwn sem_frac [] (aCons (eBin gAdd (eBin gMul (eBin gIx (eVar 0) (eLit (.int 0))) (eBin gIx (eVar 1) (eLit (.int 1)))) (eBin gMul (eBin gIx (eVar 1) (eLit (.int 0))) (eBin gIx (eVar 0) (eLit (.int 1))))) (aCons (eBin gMul (eBin gIx (eVar 0) (eLit (.int 1))) (eBin gIx (eVar 1) (eLit (.int 1)))) aNil))))
noncomputable def sem_plus : Sem' := semOf 2 [] F_plus
/-! minus(a, b): 0 a, 1 b; changed []; new False -/
noncomputable def F_minus : Fs :=
  (sRet (eOwn sem_frac [] (aCons (eBin gSub (eBin gMul (eBin gIx (eVar 0) (eLit (.int 0))) (eBin gIx (eVar 1) (eLit (.int 1)))) (eBin gMul (eBin gIx (eVar 1) (eLit (.int 0))) (eBin gIx (eVar 0) (eLit (.int 1))))) (aCons (eBin gMul (eBin gIx (eVar 0) (eLit (.int 1))) (eBin gIx (eVar 1) (eLit (.int 1)))) aNil))))
noncomputable def sem_minus : Sem' := semOf 2 [] F_minus
/-! times(a, b): 0 a, 1 b; changed []; new False -/
noncomputable def F_times : Fs :=
  (sRet (eOwn sem_frac [] (aCons (eBin gMul (eBin gIx (eVar 0) (eLit (.int 0))) (eBin gIx (eVar 1) (eLit (.int 0)))) (aCons (eBin gMul (eBin gIx (eVar 0) (eLit (.int 1))) (eBin gIx (eVar 1) (eLit (.int 1)))) aNil))))
noncomputable def sem_times : Sem' := semOf 2 [] F_times
/-! over(a, b): 0 a, 1 b; changed []; new False -/
noncomputable def F_over : Fs :=
  (sRet (eOwn sem_frac [] (aCons (eBin gMul (eBin gIx (eVar 0) (eLit (.int 0))) (eBin gIx (eVar 1) (eLit (.int 1)))) (aCons (eBin gMul (eBin gIx (eVar 0) (eLit (.int 1))) (eBin gIx (eVar 1) (eLit (.int 0)))) aNil))))
noncomputable def sem_over : Sem' := semOf 2 [] F_over
/-! less(a, b): 0 a, 1 b; changed []; new False -/
noncomputable def F_less : Fs :=
  (sRet (eBin gLt (eBin gMul (eBin gIx (eVar 0) (eLit (.int 0))) (eBin gIx (eVar 1) (eLit (.int 1)))) (eBin gMul (eBin gIx (eVar 1) (eLit (.int 0))) (eBin gIx (eVar 0) (eLit (.int 1))))))
noncomputable def sem_less : Sem' := semOf 2 [] F_less
/-! sooner(one, other): 0 one, 1 other; changed []; new False -/
noncomputable def F_sooner : Fs :=
  (sRet (eOr (eOwn sem_less [] (aCons (eBin gIx (eVar 0) (eLit (.int 0))) (aCons (eBin gIx (eVar 1) (eLit (.int 0))) aNil))) (eAnd (eBin gEq (eBin gIx (eVar 0) (eLit (.int 0))) (eBin gIx (eVar 1) (eLit (.int 0)))) (eOwn sem_less [] (aCons (eBin gIx (eVar 0) (eLit (.int 1))) (aCons (eBin gIx (eVar 1) (eLit (.int 1))) aNil))))))
noncomputable def sem_sooner : Sem' := semOf 2 [] F_sooner
/-! in_order(points): 0 points, 1 found, 2 point, 3 low, 4 high, 5 middle; changed []; new False -/
noncomputable def F_in_order : Fs :=
  (sSeq (sAsg 1 (eLst aNil)) (sSeq (sFor (iAny (eVar 0)) (tgN 2) (sSeq (sPar 3 4 (aCons (eLit (.int 0)) (aCons (eCall gLen (aCons (eVar 1) aNil)) aNil))) (sSeq (sWhile (tOf (eBin gLt (eVar 3) (eVar 4))) (sSeq (sAsg 5 (eBin gDiv (eBin gAdd (eVar 3) (eVar 4)) (eLit (.int 2)))) (sSeq (sIf (tTru (eOwn sem_sooner [] (aCons (eBin gIx (eVar 1) (eVar 5)) (aCons (eVar 2) aNil)))) (sSeq (sAsg 3 (eBin gAdd (eVar 5) (eLit (.int 1)))) sNx) (sSeq (sAsg 4 (eVar 5)) sNx)) sNx))) (sSeq (sIf (tOrT (tOf (eBin gEq (eVar 3) (eCall gLen (aCons (eVar 1) aNil)))) (tOf (eBin gNe (eBin gIx (eVar 1) (eVar 3)) (eVar 2)))) (sSeq (sAsg 1 (eBin gAdd (eBin gAdd (eSl gSl (eVar 1) oNone (oSome (eVar 3))) (eLst (aCons (eVar 2) aNil))) (eSl gSl (eVar 1) (oSome (eVar 3)) oNone))) sNx) sNx) (sKill 2 (sKill 3 (sKill 4 (sKill 5 sNx)))))))) (sRet (eVar 1))))
noncomputable def sem_in_order : Sem' := semOf 6 [] F_in_order
/-! turn(one, other, third): 0 one, 1 other, 2 third, 3 first; changed []; new False -/
noncomputable def F_turn : Fs :=
  (sSeq (sAsg 3 (eOwn sem_times [] (aCons (eOwn sem_minus [] (aCons (eBin gIx (eVar 1) (eLit (.int 0))) (aCons (eBin gIx (eVar 0) (eLit (.int 0))) aNil))) (aCons (eOwn sem_minus [] (aCons (eBin gIx (eVar 2) (eLit (.int 1))) (aCons (eBin gIx (eVar 0) (eLit (.int 1))) aNil))) aNil)))) (sRet (eOwn sem_minus [] (aCons (eVar 3) (aCons (eOwn sem_times [] (aCons (eOwn sem_minus [] (aCons (eBin gIx (eVar 1) (eLit (.int 1))) (aCons (eBin gIx (eVar 0) (eLit (.int 1))) aNil))) (aCons (eOwn sem_minus [] (aCons (eBin gIx (eVar 2) (eLit (.int 0))) (aCons (eBin gIx (eVar 0) (eLit (.int 0))) aNil))) aNil))) aNil)))))
noncomputable def sem_turn : Sem' := semOf 4 [] F_turn
/-! chain(points): 0 points, 1 found, 2 point; changed []; new False -/
noncomputable def F_chain : Fs :=
  (sSeq (sAsg 1 (eLst aNil)) (sSeq (sFor (iAny (eVar 0)) (tgN 2) (sSeq (sWhile (tAndT (tOf (eBin gGt (eCall gLen (aCons (eVar 1) aNil)) (eLit (.int 1)))) (tNotT (tTru (eOwn sem_less [] (aCons (eLit c_NOUGHT) (aCons (eOwn sem_turn [] (aCons (eBin gIx (eVar 1) (eUn gNeg (eLit (.int 2)))) (aCons (eBin gIx (eVar 1) (eUn gNeg (eLit (.int 1)))) (aCons (eVar 2) aNil)))) aNil)))))) (sSeq (sAsg 1 (eSl gSlN (eVar 1) oNone (oSome (eUn gNeg (eLit (.int 1)))))) sNx)) (sSeq (sDrop (eMut 1 isL gApp (aCons (eVar 2) aNil))) (sKill 2 sNx)))) (sRet (eVar 1))))
noncomputable def sem_chain : Sem' := semOf 3 [] F_chain
/-! hull(points): 0 points, 1 ascending; changed []; new False -/
noncomputable def F_hull : Fs :=
  (sSeq (sAsg 1 (eOwn sem_in_order [] (aCons (eVar 0) aNil))) (sSeq (sIf (tOf (eBin gLt (eCall gLen (aCons (eVar 1) aNil)) (eLit (.int 2)))) (sRet (eVar 1)) sNx) (sRet (eBin gAdd (eSl gSl (eOwn sem_chain [] (aCons (eVar 1) aNil)) oNone (oSome (eUn gNeg (eLit (.int 1))))) (eSl gSl (eOwn sem_chain [] (aCons (eUn gRev (eVar 1)) aNil)) oNone (oSome (eUn gNeg (eLit (.int 1)))))))))
noncomputable def sem_hull : Sem' := semOf 2 [] F_hull
/-! sides(shape): 0 shape, 1 at; changed []; new False -/
noncomputable def F_sides : Fs :=
  (sRet (eComp [1] (iR1 (aCons (eCall gLen (aCons (eVar 0) aNil)) aNil)) (tgN 1) tYesT (eTup (aCons (eBin gIx (eVar 0) (eBin gSub (eVar 1) (eLit (.int 1)))) (aCons (eBin gIx (eVar 0) (eVar 1)) aNil)))))
noncomputable def sem_sides : Sem' := semOf 2 [] F_sides
/-! has(shape, point): 0 shape, 1 point, 2 one, 3 other; changed []; new False -/
noncomputable def F_has : Fs :=
  (sSeq (sIf (tOf (eBin gEq (eCall gLen (aCons (eVar 0) aNil)) (eLit (.int 1)))) (sRet (eBin gEq (eBin gIx (eVar 0) (eLit (.int 0))) (eVar 1))) sNx) (sSeq (sIf (tOf (eBin gEq (eCall gLen (aCons (eVar 0) aNil)) (eLit (.int 2)))) (sSeq (sAsgT (tgSeq 2 (tgCons (tgN 2) (tgCons (tgN 3) tgNil))) (eVar 0)) (sRet (eAnd (eBin gEq (eOwn sem_turn [] (aCons (eVar 2) (aCons (eVar 3) (aCons (eVar 1) aNil)))) (eLit c_NOUGHT)) (eAnd (eNot (eOwn sem_sooner [] (aCons (eVar 1) (aCons (eVar 2) aNil)))) (eNot (eOwn sem_sooner [] (aCons (eVar 3) (aCons (eVar 1) aNil)))))))) sNx) (sRet (eNot (eCall gAny (aCons (eComp [2, 3] (iAny (eOwn sem_sides [] (aCons (eVar 0) aNil))) (tgSeq 2 (tgCons (tgN 2) (tgCons (tgN 3) tgNil))) tYesT (eOwn sem_less [] (aCons (eOwn sem_turn [] (aCons (eVar 2) (aCons (eVar 3) (aCons (eVar 1) aNil)))) (aCons (eLit c_NOUGHT) aNil)))) aNil))))))
noncomputable def sem_has : Sem' := semOf 4 [] F_has
/-! area(shape): 0 shape, 1 found, 2 one, 3 other; changed []; new False -/
noncomputable def F_area : Fs :=
  (sSeq (sAsg 1 (eLit c_NOUGHT)) (sSeq (sFor (iAny (eOwn sem_sides [] (aCons (eVar 0) aNil))) (tgSeq 2 (tgCons (tgN 2) (tgCons (tgN 3) tgNil))) (sSeq (sAsg 1 (eOwn sem_plus [] (aCons (eVar 1) (aCons (eOwn sem_minus [] (aCons (eOwn sem_times [] (aCons (eBin gIx (eVar 2) (eLit (.int 0))) (aCons (eBin gIx (eVar 3) (eLit (.int 1))) aNil))) (aCons (eOwn sem_times [] (aCons (eBin gIx (eVar 3) (eLit (.int 0))) (aCons (eBin gIx (eVar 2) (eLit (.int 1))) aNil))) aNil))) aNil)))) (sKill 2 (sKill 3 sNx)))) (sRet (eOwn sem_over [] (aCons (eVar 1) (aCons (eTup (aCons (eLit (.int 2)) (aCons (eLit (.int 1)) aNil))) aNil))))))
noncomputable def sem_area : Sem' := semOf 4 [] F_area
/-! along(point, direction): 0 point, 1 direction; changed []; new False -/
noncomputable def F_along : Fs :=
  (sRet (eOwn sem_plus [] (aCons (eOwn sem_times [] (aCons (eBin gIx (eVar 1) (eLit (.int 0))) (aCons (eBin gIx (eVar 0) (eLit (.int 0))) aNil))) (aCons (eOwn sem_times [] (aCons (eBin gIx (eVar 1) (eLit (.int 1))) (aCons (eBin gIx (eVar 0) (eLit (.int 1))) aNil))) aNil))))
noncomputable def sem_along : Sem' := semOf 2 [] F_along
/-! above(half, point): 0 half, 1 point; changed []; new False -/
noncomputable def F_above : Fs :=
  (sRet (eOwn sem_minus [] (aCons (eOwn sem_along [] (aCons (eVar 1) (aCons (eSl gSl (eVar 0) oNone (oSome (eLit (.int 2)))) aNil))) (aCons (eBin gIx (eVar 0) (eLit (.int 2))) aNil))))
noncomputable def sem_above : Sem' := semOf 2 [] F_above
/-! between(one, other, part): 0 one, 1 other, 2 part, 3 k; changed []; new False -/
noncomputable def F_between : Fs :=
  (sRet (eCall gTupOf (aCons (eComp [3] (iTupl (eTup (aCons (eLit (.int 0)) (aCons (eLit (.int 1)) aNil)))) (tgN 3) tYesT (eOwn sem_plus [] (aCons (eBin gIx (eVar 0) (eVar 3)) (aCons (eOwn sem_times [] (aCons (eVar 2) (aCons (eOwn sem_minus [] (aCons (eBin gIx (eVar 1) (eVar 3)) (aCons (eBin gIx (eVar 0) (eVar 3)) aNil))) aNil))) aNil)))) aNil)))
noncomputable def sem_between : Sem' := semOf 4 [] F_between
/-! cut(shape, half): 0 shape, 1 half, 2 points, 3 one, 4 other, 5 first, 6 second, 7 point; changed []; new False -/
noncomputable def F_cut : Fs :=
  (sSeq (sAsg 2 (eComp [7] (iAny (eVar 0)) (tgN 7) (tNotT (tTru (eOwn sem_less [] (aCons (eLit c_NOUGHT) (aCons (eOwn sem_above [] (aCons (eVar 1) (aCons (eVar 7) aNil))) aNil))))) (eVar 7))) (sSeq (sFor (iAny (eOwn sem_sides [] (aCons (eVar 0) aNil))) (tgSeq 2 (tgCons (tgN 3) (tgCons (tgN 4) tgNil))) (sSeq (sPar 5 6 (aCons (eOwn sem_above [] (aCons (eVar 1) (aCons (eVar 3) aNil))) (aCons (eOwn sem_above [] (aCons (eVar 1) (aCons (eVar 4) aNil))) aNil))) (sSeq (sIf (tOrT (tAndT (tTru (eOwn sem_less [] (aCons (eVar 5) (aCons (eLit c_NOUGHT) aNil)))) (tTru (eOwn sem_less [] (aCons (eLit c_NOUGHT) (aCons (eVar 6) aNil))))) (tAndT (tTru (eOwn sem_less [] (aCons (eLit c_NOUGHT) (aCons (eVar 5) aNil)))) (tTru (eOwn sem_less [] (aCons (eVar 6) (aCons (eLit c_NOUGHT) aNil)))))) (sSeq (sDrop (eMut 2 isL gApp (aCons (eOwn sem_between [] (aCons (eVar 3) (aCons (eVar 4) (aCons (eOwn sem_over [] (aCons (eVar 5) (aCons (eOwn sem_minus [] (aCons (eVar 5) (aCons (eVar 6) aNil))) aNil))) aNil)))) aNil))) sNx) sNx) (sKill 3 (sKill 4 (sKill 5 (sKill 6 sNx))))))) (sRet (eIf (tTru (eVar 2)) (eOwn sem_hull [] (aCons (eVar 2) aNil)) (eLit .non)))))
noncomputable def sem_cut : Sem' := semOf 8 [] F_cut
/-! _law_mixed(number, place): 0 number, 1 place, 2 first, 3 second, 4 third; changed []; new False -/
noncomputable def F__law_mixed : Fs :=
  (sSeq (sAsg 2 (eBin gMod (eCall gInt (aCons (eBin gAdd (eBin gAdd (eBin gMul (eVar 0) (eLit (.int 48271))) (eBin gMul (eVar 1) (eLit (.int 69621)))) (eLit (.int 11))) aNil)) (eLit (.int 618970019642690137449562111)))) (sSeq (sAsg 3 (eBin gMod (eCall gInt (aCons (eBin gAdd (eBin gAdd (eBin gMul (eVar 2) (eVar 2)) (eBin gMul (eLit (.int 7)) (eVar 2))) (eVar 1)) aNil)) (eLit (.int 162259276829213363391578010288127)))) (sSeq (sAsg 4 (eBin gMod (eCall gInt (aCons (eBin gAdd (eBin gMul (eVar 3) (eVar 3)) (eVar 2)) aNil)) (eLit (.int 618970019642690137449562111)))) (sRet (eBin gAdd (eBin gMul (eVar 3) (eLit (.int 618970019642690137449562111))) (eVar 4))))))
noncomputable def sem__law_mixed : Sem' := semOf 5 [] F__law_mixed
/-! _law_rest(script, place, fills): 0 script, 1 place, 2 fills, 3 number; changed []; new False -/
noncomputable def F__law_rest : Fs :=
  (sSeq (sAsg 3 (eLit (.int 0))) (sSeq (sIf (tOf (eBin gGt (eCall gLen (aCons (eVar 0) aNil)) (eLit (.int 0)))) (sSeq (sAsg 3 (eCall gInt (aCons (eBin gIx (eVar 0) (eBin gMod (eCall gInt (aCons (eVar 1) aNil)) (eCall gLen (aCons (eVar 0) aNil)))) aNil))) sNx) sNx) (sSeq (sIf (tOf (eBin gLt (eVar 3) (eLit (.int 0)))) (sSeq (sAsg 3 (eBin gSub (eLit (.int 1)) (eBin gMul (eLit (.int 2)) (eVar 3)))) sNx) sNx) (sSeq (sIf (tAndT (tOf (eBin gEq (eVar 2) (eLit (.int 0)))) (tAndT (tOf (eBin gLt (eVar 1) (eCall gLen (aCons (eVar 0) aNil)))) (tOf (eBin gGe (eVar 3) (eBin gPow (eLit (.int 10)) (eLit (.int 18))))))) (sRet (eBin gSub (eVar 3) (eBin gPow (eLit (.int 10)) (eLit (.int 18))))) sNx) (sRet (eOwn sem__law_mixed [] (aCons (eBin gAdd (eVar 3) (eBin gMul (eVar 2) (eLit (.int 1000003)))) (aCons (eVar 1) aNil))))))))
noncomputable def sem__law_rest : Sem' := semOf 4 [] F__law_rest
/-! _law_pool(script): 0 script; changed []; new True -/
noncomputable def F__law_pool : Fs :=
  (sRet (eLst (aCons (eVar 0) (aCons (eLit (.int 0)) (aCons (eOwn sem__law_rest [] (aCons (eVar 0) (aCons (eLit (.int 0)) (aCons (eLit (.int 0)) aNil)))) (aCons (eLit (.int 0)) aNil))))))
noncomputable def sem__law_pool : Sem' := semOf 1 [] F__law_pool
/-! _law_next(pool): 0 pool; changed [0]; new False -/
noncomputable def F__law_next : Fs :=
  (sSeq (sSetI 0 (eBin gAdd (eBin gIx (eVar 0) (eLit (.int 1))) (eLit (.int 1))) (eLit (.int 1))) (sSeq (sSetI 0 (eOwn sem__law_rest [] (aCons (eBin gIx (eVar 0) (eLit (.int 0))) (aCons (eBin gIx (eVar 0) (eLit (.int 1))) (aCons (eLit (.int 0)) aNil)))) (eLit (.int 2))) (sSeq (sSetI 0 (eLit (.int 0)) (eLit (.int 3))) sNx)))
noncomputable def sem__law_next : Sem' := semOf 1 [0] F__law_next
/-! _law_draw(pool, limit): 0 pool, 1 limit, 2 value; changed [0]; new False -/
noncomputable def F__law_draw : Fs :=
  (sSeq (sIf (tOf (eBin gLe (eBin gIx (eVar 0) (eLit (.int 2))) (eLit (.int 1)))) (sSeq (sSetI 0 (eBin gAdd (eBin gIx (eVar 0) (eLit (.int 3))) (eLit (.int 1))) (eLit (.int 3))) (sSeq (sSetI 0 (eOwn sem__law_rest [] (aCons (eBin gIx (eVar 0) (eLit (.int 0))) (aCons (eBin gIx (eVar 0) (eLit (.int 1))) (aCons (eBin gIx (eVar 0) (eLit (.int 3))) aNil)))) (eLit (.int 2))) sNx)) sNx) (sSeq (sAsg 2 (eBin gMod (eCall gInt (aCons (eBin gIx (eVar 0) (eLit (.int 2))) aNil)) (eVar 1))) (sSeq (sSetI 0 (eBin gDiv (eCall gInt (aCons (eBin gIx (eVar 0) (eLit (.int 2))) aNil)) (eVar 1)) (eLit (.int 2))) (sRet (eVar 2)))))
noncomputable def sem__law_draw : Sem' := semOf 3 [0] F__law_draw
/-! _law_pick(pool, options): 0 pool, 1 options; changed [0]; new False -/
noncomputable def F__law_pick : Fs :=
  (sRet (eBin gIx (eVar 1) (eOwn sem__law_draw [0] (aIo 0 (aCons (eCall gLen (aCons (eVar 1) aNil)) aNil)))))
noncomputable def sem__law_pick : Sem' := semOf 2 [0] F__law_pick
/-! _law_gcd(one, other): 0 one, 1 other, 2 k; changed []; new False -/
noncomputable def F__law_gcd : Fs :=
  (sSeq (sAsg 0 (eCall gAbs (aCons (eVar 0) aNil))) (sSeq (sAsg 1 (eCall gAbs (aCons (eVar 1) aNil))) (sSeq (sFor (iR1 (aCons (eLit (.int 400)) aNil)) (tgN 2) (sSeq (sIf (tOf (eBin gEq (eVar 1) (eLit (.int 0)))) (sKill 2 sBrk) sNx) (sSeq (sPar 0 1 (aCons (eVar 1) (aCons (eBin gMod (eCall gInt (aCons (eVar 0) aNil)) (eVar 1)) aNil))) (sKill 2 sNx)))) (sRet (eVar 0)))))
noncomputable def sem__law_gcd : Sem' := semOf 3 [] F__law_gcd
/-! _law_frac(p, q): 0 p, 1 q, 2 shared; changed []; new False -/
noncomputable def F__law_frac : Fs :=
  (sSeq (sAsg 2 (eOwn sem__law_gcd [] (aCons (eVar 0) (aCons (eVar 1) aNil)))) (sSeq (sIf (tOf (eBin gLt (eVar 1) (eLit (.int 0)))) (sSeq (sAsg 2 (eUn gNeg (eVar 2))) sNx) sNx) (sRet (eTup (aCons (eBin gDiv (eVar 0) (eVar 2)) (aCons (eBin gDiv (eVar 1) (eVar 2)) aNil))))))
noncomputable def sem__law_frac : Sem' := semOf 3 [] F__law_frac
/-! _law_plus(one, other): 0 one, 1 other; changed []; new False -/
noncomputable def F__law_plus : Fs :=
  (sRet (eOwn sem__law_frac [] (aCons (eBin gAdd (eBin gMul (eBin gIx (eVar 0) (eLit (.int 0))) (eBin gIx (eVar 1) (eLit (.int 1)))) (eBin gMul (eBin gIx (eVar 1) (eLit (.int 0))) (eBin gIx (eVar 0) (eLit (.int 1))))) (aCons (eBin gMul (eBin gIx (eVar 0) (eLit (.int 1))) (eBin gIx (eVar 1) (eLit (.int 1)))) aNil))))
noncomputable def sem__law_plus : Sem' := semOf 2 [] F__law_plus
/-! _law_times(one, other): 0 one, 1 other; changed []; new False -/
noncomputable def F__law_times : Fs :=
  (sRet (eOwn sem__law_frac [] (aCons (eBin gMul (eBin gIx (eVar 0) (eLit (.int 0))) (eBin gIx (eVar 1) (eLit (.int 0)))) (aCons (eBin gMul (eBin gIx (eVar 0) (eLit (.int 1))) (eBin gIx (eVar 1) (eLit (.int 1)))) aNil))))
noncomputable def sem__law_times : Sem' := semOf 2 [] F__law_times
/-! _law_under(one, other): 0 one, 1 other; changed []; new False -/
noncomputable def F__law_under : Fs :=
  (sRet (eBin gLt (eBin gMul (eBin gIx (eVar 0) (eLit (.int 0))) (eBin gIx (eVar 1) (eLit (.int 1)))) (eBin gMul (eBin gIx (eVar 1) (eLit (.int 0))) (eBin gIx (eVar 0) (eLit (.int 1))))))
noncomputable def sem__law_under : Sem' := semOf 2 [] F__law_under
/-! _law_minus(one, other): 0 one, 1 other; changed []; new False -/
noncomputable def F__law_minus : Fs :=
  (sRet (eOwn sem__law_plus [] (aCons (eVar 0) (aCons (eTup (aCons (eUn gNeg (eBin gIx (eVar 1) (eLit (.int 0)))) (aCons (eBin gIx (eVar 1) (eLit (.int 1))) aNil))) aNil))))
noncomputable def sem__law_minus : Sem' := semOf 2 [] F__law_minus
/-! _law_over(one, other): 0 one, 1 other; changed []; new False -/
noncomputable def F__law_over : Fs :=
  (sRet (eOwn sem__law_frac [] (aCons (eBin gMul (eBin gIx (eVar 0) (eLit (.int 0))) (eBin gIx (eVar 1) (eLit (.int 1)))) (aCons (eBin gMul (eBin gIx (eVar 0) (eLit (.int 1))) (eBin gIx (eVar 1) (eLit (.int 0)))) aNil))))
noncomputable def sem__law_over : Sem' := semOf 2 [] F__law_over
/-! _law_number(pool, top): 0 pool, 1 top, 2 q; changed [0]; new False -/
noncomputable def F__law_number : Fs :=
  (sSeq (sAsg 2 (eOwn sem__law_pick [0] (aIo 0 (aCons (eLst (aCons (eLit (.int 1)) (aCons (eLit (.int 1)) (aCons (eLit (.int 1)) (aCons (eLit (.int 2)) (aCons (eLit (.int 3)) aNil)))))) aNil)))) (sRet (eOwn sem__law_frac [] (aCons (eBin gSub (eOwn sem__law_draw [0] (aIo 0 (aCons (eBin gAdd (eBin gMul (eBin gMul (eLit (.int 2)) (eVar 1)) (eVar 2)) (eLit (.int 1))) aNil))) (eBin gMul (eVar 1) (eVar 2))) (aCons (eVar 2) aNil)))))
noncomputable def sem__law_number : Sem' := semOf 3 [0] F__law_number
/-! _law_point(pool, top): 0 pool, 1 top; changed [0]; new False -/
noncomputable def F__law_point : Fs :=
  (sRet (eTup (aCons (eOwn sem__law_number [0] (aIo 0 (aCons (eVar 1) aNil))) (aCons (eOwn sem__law_number [0] (aIo 0 (aCons (eVar 1) aNil))) aNil))))
noncomputable def sem__law_point : Sem' := semOf 2 [0] F__law_point
/-! _law_points(pool, most, top): 0 pool, 1 most, 2 top, 3 found, 4 k, 5 point; changed [0]; new False -/
noncomputable def F__law_points : Fs :=
  (sSeq (sAsg 3 (eLst aNil)) (sSeq (sFor (iR1 (aCons (eBin gAdd (eLit (.int 1)) (eOwn sem__law_draw [0] (aIo 0 (aCons (eVar 1) aNil)))) aNil)) (tgN 4) (sSeq (sDrop (eOwn sem__law_next [0] (aIo 0 aNil))) (sSeq (sDrop (eMut 3 isL gApp (aCons (eOwn sem__law_point [0] (aIo 0 (aCons (eVar 2) aNil))) aNil))) (sKill 4 sNx)))) (sSeq (sIf (tAndT (tOf (eBin gGt (eCall gLen (aCons (eVar 3) aNil)) (eLit (.int 2)))) (tOf (eBin gEq (eOwn sem__law_draw [0] (aIo 0 (aCons (eLit (.int 4)) aNil))) (eLit (.int 0))))) (sSeq (sAsg 3 (eComp [5] (iSeq (eVar 3)) (tgN 5) tYesT (eTup (aCons (eBin gIx (eVar 5) (eLit (.int 0))) (aCons (eBin gIx (eVar 5) (eLit (.int 0))) aNil))))) sNx) sNx) (sRet (eVar 3)))))
noncomputable def sem__law_points : Sem' := semOf 6 [0] F__law_points
/-! _law_turn(one, other, third): 0 one, 1 other, 2 third, 3 first; changed []; new False -/
noncomputable def F__law_turn : Fs :=
  (sSeq (sAsg 3 (eOwn sem__law_times [] (aCons (eOwn sem__law_minus [] (aCons (eBin gIx (eVar 1) (eLit (.int 0))) (aCons (eBin gIx (eVar 0) (eLit (.int 0))) aNil))) (aCons (eOwn sem__law_minus [] (aCons (eBin gIx (eVar 2) (eLit (.int 1))) (aCons (eBin gIx (eVar 0) (eLit (.int 1))) aNil))) aNil)))) (sRet (eBin gIx (eOwn sem__law_minus [] (aCons (eVar 3) (aCons (eOwn sem__law_times [] (aCons (eOwn sem__law_minus [] (aCons (eBin gIx (eVar 1) (eLit (.int 1))) (aCons (eBin gIx (eVar 0) (eLit (.int 1))) aNil))) (aCons (eOwn sem__law_minus [] (aCons (eBin gIx (eVar 2) (eLit (.int 0))) (aCons (eBin gIx (eVar 0) (eLit (.int 0))) aNil))) aNil))) aNil))) (eLit (.int 0)))))
noncomputable def sem__law_turn : Sem' := semOf 4 [] F__law_turn
/-! _law_on(one, other, point): 0 one, 1 other, 2 point, 3 k; changed []; new False -/
noncomputable def F__law_on : Fs :=
  (sSeq (sIf (tOf (eBin gNe (eOwn sem__law_turn [] (aCons (eVar 0) (aCons (eVar 1) (aCons (eVar 2) aNil)))) (eLit (.int 0)))) (sRet (eLit (.bl false))) sNx) (sSeq (sFor (iR1 (aCons (eLit (.int 2)) aNil)) (tgN 3) (sSeq (sIf (tOrT (tAndT (tTru (eOwn sem__law_under [] (aCons (eBin gIx (eVar 2) (eVar 3)) (aCons (eBin gIx (eVar 0) (eVar 3)) aNil)))) (tTru (eOwn sem__law_under [] (aCons (eBin gIx (eVar 2) (eVar 3)) (aCons (eBin gIx (eVar 1) (eVar 3)) aNil))))) (tAndT (tTru (eOwn sem__law_under [] (aCons (eBin gIx (eVar 0) (eVar 3)) (aCons (eBin gIx (eVar 2) (eVar 3)) aNil)))) (tTru (eOwn sem__law_under [] (aCons (eBin gIx (eVar 1) (eVar 3)) (aCons (eBin gIx (eVar 2) (eVar 3)) aNil)))))) (sRet (eLit (.bl false))) sNx) (sKill 3 sNx))) (sRet (eLit (.bl true)))))
noncomputable def sem__law_on : Sem' := semOf 4 [] F__law_on
/-! _law_inside(points, point): 0 points, 1 point, 2 a, 3 b, 4 c, 5 signs; changed []; new False -/
noncomputable def F__law_inside : Fs :=
  (sSeq (sFor (iR1 (aCons (eCall gLen (aCons (eVar 0) aNil)) aNil)) (tgN 2) (sSeq (sFor (iR2 (aCons (eVar 2) (aCons (eCall gLen (aCons (eVar 0) aNil)) aNil))) (tgN 3) (sSeq (sIf (tTru (eOwn sem__law_on [] (aCons (eBin gIx (eVar 0) (eVar 2)) (aCons (eBin gIx (eVar 0) (eVar 3)) (aCons (eVar 1) aNil))))) (sRet (eLit (.bl true))) sNx) (sSeq (sFor (iR2 (aCons (eBin gAdd (eVar 3) (eLit (.int 1))) (aCons (eCall gLen (aCons (eVar 0) aNil)) aNil))) (tgN 4) (sSeq (sAsg 5 (eLst (aCons (eOwn sem__law_turn [] (aCons (eBin gIx (eVar 0) (eVar 2)) (aCons (eBin gIx (eVar 0) (eVar 3)) (aCons (eVar 1) aNil)))) (aCons (eOwn sem__law_turn [] (aCons (eBin gIx (eVar 0) (eVar 3)) (aCons (eBin gIx (eVar 0) (eVar 4)) (aCons (eVar 1) aNil)))) (aCons (eOwn sem__law_turn [] (aCons (eBin gIx (eVar 0) (eVar 4)) (aCons (eBin gIx (eVar 0) (eVar 2)) (aCons (eVar 1) aNil)))) aNil))))) (sSeq (sIf (tAndT (tOf (eBin gNe (eOwn sem__law_turn [] (aCons (eBin gIx (eVar 0) (eVar 2)) (aCons (eBin gIx (eVar 0) (eVar 3)) (aCons (eBin gIx (eVar 0) (eVar 4)) aNil)))) (eLit (.int 0)))) (tOrT (tOf (eBin gGe (eCall gMinL (aCons (eVar 5) aNil)) (eLit (.int 0)))) (tOf (eBin gLe (eCall gMaxL (aCons (eVar 5) aNil)) (eLit (.int 0)))))) (sRet (eLit (.bl true))) sNx) sNx))) sNx))) (sKill 2 (sKill 3 (sKill 4 (sKill 5 sNx)))))) (sRet (eLit (.bl false))))
noncomputable def sem__law_inside : Sem' := semOf 6 [] F__law_inside
/-! _law_along(point, direction): 0 point, 1 direction; changed []; new False -/
noncomputable def F__law_along : Fs :=
  (sRet (eOwn sem__law_plus [] (aCons (eOwn sem__law_times [] (aCons (eBin gIx (eVar 0) (eLit (.int 0))) (aCons (eBin gIx (eVar 1) (eLit (.int 0))) aNil))) (aCons (eOwn sem__law_times [] (aCons (eBin gIx (eVar 0) (eLit (.int 1))) (aCons (eBin gIx (eVar 1) (eLit (.int 1))) aNil))) aNil))))
noncomputable def sem__law_along : Sem' := semOf 2 [] F__law_along
/-! law(script): 0 script, 1 pool, 2 trial, 3 points, 4 shape, 5 one, 6 other, 7 half, 8 back, 9 told, 10 rest, 11 kept, 12 whole, 13 part, 14 probe, 15 point, 16 two, 17 due, 18 k; changed []; new False -/
noncomputable def F_law : Fs :=
  (sSeq (sAsg 1 (eOwn sem__law_pool [] (aCons (eVar 0) aNil))) (sSeq (sFor (iR1 (aCons (eLit (.int 2)) aNil)) (tgN 2) (sSeq (sAsg 3 (eOwn sem__law_points [1] (aIo 1 (aCons (eLit (.int 8)) (aCons (eLit (.int 5)) aNil))))) (sSeq (sAsg 4 (eOwn sem_hull [] (aCons (eVar 3) aNil))) (sSeq (sAsg 5 (eOwn sem__law_pick [1] (aIo 1 (aCons (eVar 4) aNil)))) (sSeq (sAsg 6 (eOwn sem__law_pick [1] (aIo 1 (aCons (eBin gAdd (eVar 4) (eLst (aCons (eOwn sem__law_point [1] (aIo 1 (aCons (eLit (.int 5)) aNil))) aNil))) aNil)))) (sSeq (sAsg 7 (eTup (aCons (eOwn sem__law_minus [] (aCons (eBin gIx (eVar 6) (eLit (.int 1))) (aCons (eBin gIx (eVar 5) (eLit (.int 1))) aNil))) (aCons (eOwn sem__law_minus [] (aCons (eBin gIx (eVar 5) (eLit (.int 0))) (aCons (eBin gIx (eVar 6) (eLit (.int 0))) aNil))) (aCons (eTup (aCons (eLit (.int 0)) (aCons (eLit (.int 1)) aNil))) aNil))))) (sSeq (sIf (tAndT (tOf (eBin gEq (eBin gIx (eBin gIx (eVar 7) (eLit (.int 0))) (eLit (.int 0))) (eLit (.int 0)))) (tOf (eBin gEq (eBin gIx (eBin gIx (eVar 7) (eLit (.int 1))) (eLit (.int 0))) (eLit (.int 0))))) (sSeq (sAsg 7 (eTup (aCons (eOwn sem__law_number [1] (aIo 1 (aCons (eLit (.int 3)) aNil))) (aCons (eTup (aCons (eLit (.int 1)) (aCons (eLit (.int 1)) aNil))) (aCons (eTup (aCons (eLit (.int 0)) (aCons (eLit (.int 1)) aNil))) aNil))))) sNx) sNx) (sSeq (sAsg 7 (eTup (aCons (eBin gIx (eVar 7) (eLit (.int 0))) (aCons (eBin gIx (eVar 7) (eLit (.int 1))) (aCons (eOwn sem__law_plus [] (aCons (eOwn sem__law_along [] (aCons (eVar 5) (aCons (eSl gSl (eVar 7) oNone (oSome (eLit (.int 2)))) aNil))) (aCons (eOwn sem__law_pick [1] (aIo 1 (aCons (eLst (aCons (eTup (aCons (eLit (.int 0)) (aCons (eLit (.int 1)) aNil))) (aCons (eTup (aCons (eLit (.int 0)) (aCons (eLit (.int 1)) aNil))) (aCons (eOwn sem__law_number [1] (aIo 1 (aCons (eLit (.int 3)) aNil))) aNil)))) aNil))) aNil))) aNil))))) (sSeq (sAsg 8 (eTup (aCons (eTup (aCons (eUn gNeg (eBin gIx (eBin gIx (eVar 7) (eLit (.int 0))) (eLit (.int 0)))) (aCons (eBin gIx (eBin gIx (eVar 7) (eLit (.int 0))) (eLit (.int 1))) aNil))) (aCons (eTup (aCons (eUn gNeg (eBin gIx (eBin gIx (eVar 7) (eLit (.int 1))) (eLit (.int 0)))) (aCons (eBin gIx (eBin gIx (eVar 7) (eLit (.int 1))) (eLit (.int 1))) aNil))) (aCons (eTup (aCons (eUn gNeg (eBin gIx (eBin gIx (eVar 7) (eLit (.int 2))) (eLit (.int 0)))) (aCons (eBin gIx (eBin gIx (eVar 7) (eLit (.int 2))) (eLit (.int 1))) aNil))) aNil))))) (sSeq (sAsg 9 (eOwn sem_cut [] (aCons (eCall gListOf (aCons (eVar 4) aNil)) (aCons (eVar 7) aNil)))) (sSeq (sAsg 10 (eOwn sem_cut [] (aCons (eCall gListOf (aCons (eVar 4) aNil)) (aCons (eVar 8) aNil)))) (sSeq (sAsg 11 (eBin gGt (eCall gLen (aCons (eComp [15] (iAny (eVar 4)) (tgN 15) (tNotT (tTru (eOwn sem__law_under [] (aCons (eBin gIx (eVar 7) (eLit (.int 2))) (aCons (eOwn sem__law_along [] (aCons (eVar 15) (aCons (eSl gSl (eVar 7) oNone (oSome (eLit (.int 2)))) aNil))) aNil))))) (eVar 15)) aNil)) (eLit (.int 0)))) (sSeq (sIf (tOf (eBin gEq (eBin gIs (eVar 9) (eLit .non)) (eVar 11))) (sRet (eLit (.bl false))) sNx) (sSeq (sAsg 12 (eTup (aCons (eLit (.int 0)) (aCons (eLit (.int 1)) aNil)))) (sSeq (sFor (iAny (eLst (aCons (eVar 9) (aCons (eVar 10) aNil)))) (tgN 13) (sSeq (sIf (tOf (eBin gIsNot (eVar 13) (eLit .non))) (sSeq (sAsg 12 (eOwn sem__law_plus [] (aCons (eVar 12) (aCons (eOwn sem_area [] (aCons (eVar 13) aNil)) aNil)))) (sSeq (sIf (tOf (eBin gNe (eOwn sem_hull [] (aCons (eVar 13) aNil)) (eVar 13))) (sRet (eLit (.bl false))) sNx) sNx)) sNx) sNx)) (sSeq (sIf (tOrT (tOf (eBin gNe (eVar 12) (eOwn sem_area [] (aCons (eVar 4) aNil)))) (tAndT (tOf (eBin gIsNot (eVar 9) (eLit .non))) (tOf (eBin gNe (eOwn sem_cut [] (aCons (eVar 9) (aCons (eVar 7) aNil))) (eVar 9))))) (sRet (eLit (.bl false))) sNx) (sSeq (sFor (iR1 (aCons (eLit (.int 6)) aNil)) (tgN 14) (sSeq (sAsg 15 (eIf (tOf (eBin gGt (eVar 14) (eLit (.int 1)))) (eOwn sem__law_point [1] (aIo 1 (aCons (eLit (.int 5)) aNil))) (eOwn sem__law_pick [1] (aIo 1 (aCons (eVar 4) aNil))))) (sSeq (sIf (tAndT (tOf (eBin gGt (eVar 14) (eLit (.int 3)))) (tOf (eBin gIsNot (eVar 9) (eLit .non)))) (sSeq (sAsg 16 (eOwn sem__law_pick [1] (aIo 1 (aCons (eVar 9) aNil)))) (sSeq (sAsg 15 (eCall gTupOf (aCons (eComp [18] (iR1 (aCons (eLit (.int 2)) aNil)) (tgN 18) tYesT (eOwn sem__law_over [] (aCons (eOwn sem__law_plus [] (aCons (eBin gIx (eBin gIx (eVar 9) (eLit (.int 0))) (eVar 18)) (aCons (eBin gIx (eVar 16) (eVar 18)) aNil))) (aCons (eTup (aCons (eLit (.int 2)) (aCons (eLit (.int 1)) aNil))) aNil)))) aNil))) sNx)) sNx) (sSeq (sAsg 17 (eAnd (eOwn sem__law_inside [] (aCons (eVar 3) (aCons (eVar 15) aNil))) (eNot (eOwn sem__law_under [] (aCons (eBin gIx (eVar 7) (eLit (.int 2))) (aCons (eOwn sem__law_along [] (aCons (eVar 15) (aCons (eSl gSl (eVar 7) oNone (oSome (eLit (.int 2)))) aNil))) aNil)))))) (sSeq (sIf (tOf (eBin gNe (eVar 17) (eAnd (eBin gIsNot (eVar 9) (eLit .non)) (eOwn sem_has [] (aCons (eVar 9) (aCons (eVar 15) aNil)))))) (sRet (eLit (.bl false))) sNx) sNx))))) (sKill 2 (sKill 3 (sKill 4 (sKill 5 (sKill 6 (sKill 7 (sKill 8 (sKill 9 (sKill 10 (sKill 11 (sKill 12 (sKill 13 (sKill 14 (sKill 16 (sKill 17 sNx)))))))))))))))))))))))))))))))) (sRet (eLit (.bl true)))))
noncomputable def sem_law : Sem' := semOf 19 [] F_law
end Law
namespace Law
open PySem PySem.Spec PyProof.Rows L2 Tw
def topS (i : Nat) : Stmt := PySem.Challenge.pw_inkwright_k35_shapes_cut_by_half_planes.main.body.getD i (.Pass ⟨0, 0, 0, 0⟩)
abbrev S_frac : Stmt := topS 3
abbrev N_frac : List Str := ["p", "q", "shared"]
theorem sc_frac : FnScope N_frac ["p", "q"] (defScope S_frac) := ⟨rfl, rfl, rfl, by decide +kernel, rfl, by decide +kernel, by decide +kernel⟩
abbrev S_plus : Stmt := topS 4
abbrev N_plus : List Str := ["a", "b"]
theorem sc_plus : FnScope N_plus ["a", "b"] (defScope S_plus) := ⟨rfl, rfl, rfl, by decide +kernel, rfl, by decide +kernel, by decide +kernel⟩
abbrev S_minus : Stmt := topS 5
abbrev N_minus : List Str := ["a", "b"]
theorem sc_minus : FnScope N_minus ["a", "b"] (defScope S_minus) := ⟨rfl, rfl, rfl, by decide +kernel, rfl, by decide +kernel, by decide +kernel⟩
abbrev S_times : Stmt := topS 6
abbrev N_times : List Str := ["a", "b"]
theorem sc_times : FnScope N_times ["a", "b"] (defScope S_times) := ⟨rfl, rfl, rfl, by decide +kernel, rfl, by decide +kernel, by decide +kernel⟩
abbrev S_over : Stmt := topS 7
abbrev N_over : List Str := ["a", "b"]
theorem sc_over : FnScope N_over ["a", "b"] (defScope S_over) := ⟨rfl, rfl, rfl, by decide +kernel, rfl, by decide +kernel, by decide +kernel⟩
abbrev S_less : Stmt := topS 8
abbrev N_less : List Str := ["a", "b"]
theorem sc_less : FnScope N_less ["a", "b"] (defScope S_less) := ⟨rfl, rfl, rfl, by decide +kernel, rfl, by decide +kernel, by decide +kernel⟩
abbrev S_sooner : Stmt := topS 10
abbrev N_sooner : List Str := ["one", "other"]
theorem sc_sooner : FnScope N_sooner ["one", "other"] (defScope S_sooner) := ⟨rfl, rfl, rfl, by decide +kernel, rfl, by decide +kernel, by decide +kernel⟩
abbrev S_in_order : Stmt := topS 11
abbrev N_in_order : List Str := ["points", "found", "point", "low", "high", "middle"]
theorem sc_in_order : FnScope N_in_order ["points"] (defScope S_in_order) := ⟨rfl, rfl, rfl, by decide +kernel, rfl, by decide +kernel, by decide +kernel⟩
abbrev S_turn : Stmt := topS 12
abbrev N_turn : List Str := ["one", "other", "third", "first"]
theorem sc_turn : FnScope N_turn ["one", "other", "third"] (defScope S_turn) := ⟨rfl, rfl, rfl, by decide +kernel, rfl, by decide +kernel, by decide +kernel⟩
abbrev S_chain : Stmt := topS 13
abbrev N_chain : List Str := ["points", "found", "point"]
theorem sc_chain : FnScope N_chain ["points"] (defScope S_chain) := ⟨rfl, rfl, rfl, by decide +kernel, rfl, by decide +kernel, by decide +kernel⟩
abbrev S_hull : Stmt := topS 14
abbrev N_hull : List Str := ["points", "ascending"]
theorem sc_hull : FnScope N_hull ["points"] (defScope S_hull) := ⟨rfl, rfl, rfl, by decide +kernel, rfl, by decide +kernel, by decide +kernel⟩
abbrev S_sides : Stmt := topS 15
abbrev N_sides : List Str := ["shape", "at"]
theorem sc_sides : FnScope N_sides ["shape"] (defScope S_sides) := ⟨rfl, rfl, rfl, by decide +kernel, rfl, by decide +kernel, by decide +kernel⟩
abbrev S_has : Stmt := topS 16
abbrev N_has : List Str := ["shape", "point", "one", "other"]
theorem sc_has : FnScope N_has ["shape", "point"] (defScope S_has) := ⟨rfl, rfl, rfl, by decide +kernel, rfl, by decide +kernel, by decide +kernel⟩
abbrev S_area : Stmt := topS 17
abbrev N_area : List Str := ["shape", "found", "one", "other"]
theorem sc_area : FnScope N_area ["shape"] (defScope S_area) := ⟨rfl, rfl, rfl, by decide +kernel, rfl, by decide +kernel, by decide +kernel⟩
abbrev S_along : Stmt := topS 18
abbrev N_along : List Str := ["point", "direction"]
theorem sc_along : FnScope N_along ["point", "direction"] (defScope S_along) := ⟨rfl, rfl, rfl, by decide +kernel, rfl, by decide +kernel, by decide +kernel⟩
abbrev S_above : Stmt := topS 20
abbrev N_above : List Str := ["half", "point"]
theorem sc_above : FnScope N_above ["half", "point"] (defScope S_above) := ⟨rfl, rfl, rfl, by decide +kernel, rfl, by decide +kernel, by decide +kernel⟩
abbrev S_between : Stmt := topS 21
abbrev N_between : List Str := ["one", "other", "part", "k"]
theorem sc_between : FnScope N_between ["one", "other", "part"] (defScope S_between) := ⟨rfl, rfl, rfl, by decide +kernel, rfl, by decide +kernel, by decide +kernel⟩
abbrev S_cut : Stmt := topS 22
abbrev N_cut : List Str := ["shape", "half", "points", "one", "other", "first", "second", "point"]
theorem sc_cut : FnScope N_cut ["shape", "half"] (defScope S_cut) := ⟨rfl, rfl, rfl, by decide +kernel, rfl, by decide +kernel, by decide +kernel⟩
abbrev S__law_mixed : Stmt := topS 24
abbrev N__law_mixed : List Str := ["number", "place", "first", "second", "third"]
theorem sc__law_mixed : FnScope N__law_mixed ["number", "place"] (defScope S__law_mixed) := ⟨rfl, rfl, rfl, by decide +kernel, rfl, by decide +kernel, by decide +kernel⟩
abbrev S__law_rest : Stmt := topS 25
abbrev N__law_rest : List Str := ["script", "place", "fills", "number"]
theorem sc__law_rest : FnScope N__law_rest ["script", "place", "fills"] (defScope S__law_rest) := ⟨rfl, rfl, rfl, by decide +kernel, rfl, by decide +kernel, by decide +kernel⟩
abbrev S__law_pool : Stmt := topS 26
abbrev N__law_pool : List Str := ["script"]
theorem sc__law_pool : FnScope N__law_pool ["script"] (defScope S__law_pool) := ⟨rfl, rfl, rfl, by decide +kernel, rfl, by decide +kernel, by decide +kernel⟩
abbrev S__law_next : Stmt := topS 27
abbrev N__law_next : List Str := ["pool"]
theorem sc__law_next : FnScope N__law_next ["pool"] (defScope S__law_next) := ⟨rfl, rfl, rfl, by decide +kernel, rfl, by decide +kernel, by decide +kernel⟩
abbrev S__law_draw : Stmt := topS 28
abbrev N__law_draw : List Str := ["pool", "limit", "value"]
theorem sc__law_draw : FnScope N__law_draw ["pool", "limit"] (defScope S__law_draw) := ⟨rfl, rfl, rfl, by decide +kernel, rfl, by decide +kernel, by decide +kernel⟩
abbrev S__law_pick : Stmt := topS 29
abbrev N__law_pick : List Str := ["pool", "options"]
theorem sc__law_pick : FnScope N__law_pick ["pool", "options"] (defScope S__law_pick) := ⟨rfl, rfl, rfl, by decide +kernel, rfl, by decide +kernel, by decide +kernel⟩
abbrev S__law_gcd : Stmt := topS 30
abbrev N__law_gcd : List Str := ["one", "other", "k"]
theorem sc__law_gcd : FnScope N__law_gcd ["one", "other"] (defScope S__law_gcd) := ⟨rfl, rfl, rfl, by decide +kernel, rfl, by decide +kernel, by decide +kernel⟩
abbrev S__law_frac : Stmt := topS 31
abbrev N__law_frac : List Str := ["p", "q", "shared"]
theorem sc__law_frac : FnScope N__law_frac ["p", "q"] (defScope S__law_frac) := ⟨rfl, rfl, rfl, by decide +kernel, rfl, by decide +kernel, by decide +kernel⟩
abbrev S__law_plus : Stmt := topS 32
abbrev N__law_plus : List Str := ["one", "other"]
theorem sc__law_plus : FnScope N__law_plus ["one", "other"] (defScope S__law_plus) := ⟨rfl, rfl, rfl, by decide +kernel, rfl, by decide +kernel, by decide +kernel⟩
abbrev S__law_times : Stmt := topS 33
abbrev N__law_times : List Str := ["one", "other"]
theorem sc__law_times : FnScope N__law_times ["one", "other"] (defScope S__law_times) := ⟨rfl, rfl, rfl, by decide +kernel, rfl, by decide +kernel, by decide +kernel⟩
abbrev S__law_under : Stmt := topS 34
abbrev N__law_under : List Str := ["one", "other"]
theorem sc__law_under : FnScope N__law_under ["one", "other"] (defScope S__law_under) := ⟨rfl, rfl, rfl, by decide +kernel, rfl, by decide +kernel, by decide +kernel⟩
abbrev S__law_minus : Stmt := topS 35
abbrev N__law_minus : List Str := ["one", "other"]
theorem sc__law_minus : FnScope N__law_minus ["one", "other"] (defScope S__law_minus) := ⟨rfl, rfl, rfl, by decide +kernel, rfl, by decide +kernel, by decide +kernel⟩
abbrev S__law_over : Stmt := topS 36
abbrev N__law_over : List Str := ["one", "other"]
theorem sc__law_over : FnScope N__law_over ["one", "other"] (defScope S__law_over) := ⟨rfl, rfl, rfl, by decide +kernel, rfl, by decide +kernel, by decide +kernel⟩
abbrev S__law_number : Stmt := topS 37
abbrev N__law_number : List Str := ["pool", "top", "q"]
theorem sc__law_number : FnScope N__law_number ["pool", "top"] (defScope S__law_number) := ⟨rfl, rfl, rfl, by decide +kernel, rfl, by decide +kernel, by decide +kernel⟩
abbrev S__law_point : Stmt := topS 38
abbrev N__law_point : List Str := ["pool", "top"]
theorem sc__law_point : FnScope N__law_point ["pool", "top"] (defScope S__law_point) := ⟨rfl, rfl, rfl, by decide +kernel, rfl, by decide +kernel, by decide +kernel⟩
abbrev S__law_points : Stmt := topS 39
abbrev N__law_points : List Str := ["pool", "most", "top", "found", "k", "point"]
theorem sc__law_points : FnScope N__law_points ["pool", "most", "top"] (defScope S__law_points) := ⟨rfl, rfl, rfl, by decide +kernel, rfl, by decide +kernel, by decide +kernel⟩
abbrev S__law_turn : Stmt := topS 40
abbrev N__law_turn : List Str := ["one", "other", "third", "first"]
theorem sc__law_turn : FnScope N__law_turn ["one", "other", "third"] (defScope S__law_turn) := ⟨rfl, rfl, rfl, by decide +kernel, rfl, by decide +kernel, by decide +kernel⟩
abbrev S__law_on : Stmt := topS 41
abbrev N__law_on : List Str := ["one", "other", "point", "k"]
theorem sc__law_on : FnScope N__law_on ["one", "other", "point"] (defScope S__law_on) := ⟨rfl, rfl, rfl, by decide +kernel, rfl, by decide +kernel, by decide +kernel⟩
abbrev S__law_inside : Stmt := topS 42
abbrev N__law_inside : List Str := ["points", "point", "a", "b", "c", "signs"]
theorem sc__law_inside : FnScope N__law_inside ["points", "point"] (defScope S__law_inside) := ⟨rfl, rfl, rfl, by decide +kernel, rfl, by decide +kernel, by decide +kernel⟩
abbrev S__law_along : Stmt := topS 43
abbrev N__law_along : List Str := ["point", "direction"]
theorem sc__law_along : FnScope N__law_along ["point", "direction"] (defScope S__law_along) := ⟨rfl, rfl, rfl, by decide +kernel, rfl, by decide +kernel, by decide +kernel⟩
abbrev S_law : Stmt := topS 44
abbrev N_law : List Str := ["script", "pool", "trial", "points", "shape", "one", "other", "half", "back", "told", "rest", "kept", "whole", "part", "probe", "point", "two", "due", "k"]
theorem sc_law : FnScope N_law ["script"] (defScope S_law) := ⟨rfl, rfl, rfl, by decide +kernel, rfl, by decide +kernel, by decide +kernel⟩
structure Facts (K : PySem.W.Frag) (mg : Str → Option Value) : Prop where
  h_frac : Has K mg "frac" S_frac
  h_plus : Has K mg "plus" S_plus
  h_minus : Has K mg "minus" S_minus
  h_times : Has K mg "times" S_times
  h_over : Has K mg "over" S_over
  h_less : Has K mg "less" S_less
  h_sooner : Has K mg "sooner" S_sooner
  h_in_order : Has K mg "in_order" S_in_order
  h_turn : Has K mg "turn" S_turn
  h_chain : Has K mg "chain" S_chain
  h_hull : Has K mg "hull" S_hull
  h_sides : Has K mg "sides" S_sides
  h_has : Has K mg "has" S_has
  h_area : Has K mg "area" S_area
  h_along : Has K mg "along" S_along
  h_above : Has K mg "above" S_above
  h_between : Has K mg "between" S_between
  h_cut : Has K mg "cut" S_cut
  h__law_mixed : Has K mg "_law_mixed" S__law_mixed
  h__law_rest : Has K mg "_law_rest" S__law_rest
  h__law_pool : Has K mg "_law_pool" S__law_pool
  h__law_next : Has K mg "_law_next" S__law_next
  h__law_draw : Has K mg "_law_draw" S__law_draw
  h__law_pick : Has K mg "_law_pick" S__law_pick
  h__law_gcd : Has K mg "_law_gcd" S__law_gcd
  h__law_frac : Has K mg "_law_frac" S__law_frac
  h__law_plus : Has K mg "_law_plus" S__law_plus
  h__law_times : Has K mg "_law_times" S__law_times
  h__law_under : Has K mg "_law_under" S__law_under
  h__law_minus : Has K mg "_law_minus" S__law_minus
  h__law_over : Has K mg "_law_over" S__law_over
  h__law_number : Has K mg "_law_number" S__law_number
  h__law_point : Has K mg "_law_point" S__law_point
  h__law_points : Has K mg "_law_points" S__law_points
  h__law_turn : Has K mg "_law_turn" S__law_turn
  h__law_on : Has K mg "_law_on" S__law_on
  h__law_inside : Has K mg "_law_inside" S__law_inside
  h__law_along : Has K mg "_law_along" S__law_along
  h_law : Has K mg "law" S_law
  n_abs : mg "abs" = none
  n_any : mg "any" = none
  n_int : mg "int" = none
  n_len : mg "len" = none
  n_list : mg "list" = none
  n_max : mg "max" = none
  n_min : mg "min" = none
  n_range : mg "range" = none
  n_tuple : mg "tuple" = none
  c_NOUGHT : Cst K mg "NOUGHT" c_NOUGHT
  i_gcd : mg "gcd" = some (.builtin "math.gcd")
section
variable {P : Program} {w : World} {K : PySem.W.Frag} {mg : Str → Option Value}
theorem ok_frac (T_ : Facts K mg) : Known P w K mg "frac" 1 ["p", "q"] [false, false] false sem_frac :=
  known_def (k := 0) (Ns := N_frac) (pl := []) (κ' := [false, false, false]) T_.h_frac (fun _ _ _ _ _ _ us hl => match us, hl with | [_, _], _ => rfl) sc_frac rfl rfl (fun fa base cdv A outer s H E hr =>
    (sss_cons (ss_asg 2 (sx_if (st_cmp op_gt o2_gt (sx_var 1) sx_int) (sx_callF cr_gcd fn_gcd (by rfl) T_.i_gcd (sa_cons (sx_var 0) (sa_cons (sx_var 1) sa_nil))) (sx_un un_neg o1_neg (sx_callF cr_gcd fn_gcd (by rfl) T_.i_gcd (sa_cons (sx_var 0) (sa_cons (sx_var 1) sa_nil))))) sc_frac.nd) (sss_one (ss_ret (sx_tup (sa_cons (sx_bin op_divX o2_div (sx_var 0) (sx_var 2)) (sa_cons (sx_bin op_divX o2_div (sx_var 1) (sx_var 2)) sa_nil)))))))
    (fun h => nomatch h)
theorem ok_plus (T_ : Facts K mg) (K_frac : Known P w K mg "frac" 1 ["p", "q"] [false, false] false sem_frac) : Known P w K mg "plus" 2 ["a", "b"] [false, false] false sem_plus :=
  known_def (k := 1) (Ns := N_plus) (pl := []) (κ' := [false, false]) T_.h_plus (fun _ _ _ _ _ _ us hl => match us, hl with | [_, _], _ => rfl) sc_plus rfl rfl (fun fa base cdv A outer s H E hr =>
    (sss_one (ss_ret (sx_ownK K_frac (hr.mono (by decide)) (by rfl) (sak_cp (sx_bin op_addX o2_add (sx_bin op_mulY o2_mul (sx_ix ix_seq o2_ix (sx_var 0) sx_int) (sx_ix ix_seq o2_ix (sx_var 1) sx_int)) (sx_bin op_mulY o2_mul (sx_ix ix_seq o2_ix (sx_var 1) sx_int) (sx_ix ix_seq o2_ix (sx_var 0) sx_int))) (sak_cp (sx_bin op_mulY o2_mul (sx_ix ix_seq o2_ix (sx_var 0) sx_int) (sx_ix ix_seq o2_ix (sx_var 1) sx_int)) sak_nil))))))
    (fun h => nomatch h)
theorem ok_minus (T_ : Facts K mg) (K_frac : Known P w K mg "frac" 1 ["p", "q"] [false, false] false sem_frac) : Known P w K mg "minus" 2 ["a", "b"] [false, false] false sem_minus :=
  known_def (k := 1) (Ns := N_minus) (pl := []) (κ' := [false, false]) T_.h_minus (fun _ _ _ _ _ _ us hl => match us, hl with | [_, _], _ => rfl) sc_minus rfl rfl (fun fa base cdv A outer s H E hr =>
    (sss_one (ss_ret (sx_ownK K_frac (hr.mono (by decide)) (by rfl) (sak_cp (sx_bin op_sub o2_sub (sx_bin op_mulY o2_mul (sx_ix ix_seq o2_ix (sx_var 0) sx_int) (sx_ix ix_seq o2_ix (sx_var 1) sx_int)) (sx_bin op_mulY o2_mul (sx_ix ix_seq o2_ix (sx_var 1) sx_int) (sx_ix ix_seq o2_ix (sx_var 0) sx_int))) (sak_cp (sx_bin op_mulY o2_mul (sx_ix ix_seq o2_ix (sx_var 0) sx_int) (sx_ix ix_seq o2_ix (sx_var 1) sx_int)) sak_nil))))))
    (fun h => nomatch h)
theorem ok_times (T_ : Facts K mg) (K_frac : Known P w K mg "frac" 1 ["p", "q"] [false, false] false sem_frac) : Known P w K mg "times" 2 ["a", "b"] [false, false] false sem_times :=
  known_def (k := 1) (Ns := N_times) (pl := []) (κ' := [false, false]) T_.h_times (fun _ _ _ _ _ _ us hl => match us, hl with | [_, _], _ => rfl) sc_times rfl rfl (fun fa base cdv A outer s H E hr =>
    (sss_one (ss_ret (sx_ownK K_frac (hr.mono (by decide)) (by rfl) (sak_cp (sx_bin op_mulY o2_mul (sx_ix ix_seq o2_ix (sx_var 0) sx_int) (sx_ix ix_seq o2_ix (sx_var 1) sx_int)) (sak_cp (sx_bin op_mulY o2_mul (sx_ix ix_seq o2_ix (sx_var 0) sx_int) (sx_ix ix_seq o2_ix (sx_var 1) sx_int)) sak_nil))))))
    (fun h => nomatch h)
theorem ok_over (T_ : Facts K mg) (K_frac : Known P w K mg "frac" 1 ["p", "q"] [false, false] false sem_frac) : Known P w K mg "over" 2 ["a", "b"] [false, false] false sem_over :=
  known_def (k := 1) (Ns := N_over) (pl := []) (κ' := [false, false]) T_.h_over (fun _ _ _ _ _ _ us hl => match us, hl with | [_, _], _ => rfl) sc_over rfl rfl (fun fa base cdv A outer s H E hr =>
    (sss_one (ss_ret (sx_ownK K_frac (hr.mono (by decide)) (by rfl) (sak_cp (sx_bin op_mulY o2_mul (sx_ix ix_seq o2_ix (sx_var 0) sx_int) (sx_ix ix_seq o2_ix (sx_var 1) sx_int)) (sak_cp (sx_bin op_mulY o2_mul (sx_ix ix_seq o2_ix (sx_var 0) sx_int) (sx_ix ix_seq o2_ix (sx_var 1) sx_int)) sak_nil))))))
    (fun h => nomatch h)
theorem ok_less (T_ : Facts K mg) : Known P w K mg "less" 1 ["a", "b"] [false, false] false sem_less :=
  known_def (k := 0) (Ns := N_less) (pl := []) (κ' := [false, false]) T_.h_less (fun _ _ _ _ _ _ us hl => match us, hl with | [_, _], _ => rfl) sc_less rfl rfl (fun fa base cdv A outer s H E hr =>
    (sss_one (ss_ret (sx_cmp op_lt o2_lt (sx_bin op_mulY o2_mul (sx_ix ix_seq o2_ix (sx_var 0) sx_int) (sx_ix ix_seq o2_ix (sx_var 1) sx_int)) (sx_bin op_mulY o2_mul (sx_ix ix_seq o2_ix (sx_var 1) sx_int) (sx_ix ix_seq o2_ix (sx_var 0) sx_int))))))
    (fun h => nomatch h)
theorem ok_sooner (T_ : Facts K mg) (K_less : Known P w K mg "less" 1 ["a", "b"] [false, false] false sem_less) : Known P w K mg "sooner" 2 ["one", "other"] [false, false] false sem_sooner :=
  known_def (k := 1) (Ns := N_sooner) (pl := []) (κ' := [false, false]) T_.h_sooner (fun _ _ _ _ _ _ us hl => match us, hl with | [_, _], _ => rfl) sc_sooner rfl rfl (fun fa base cdv A outer s H E hr =>
    (sss_one (ss_ret (sx_or (sx_ownK K_less (hr.mono (by decide)) (by rfl) (sak_cp (sx_ix ix_seq o2_ix (sx_var 0) sx_int) (sak_cp (sx_ix ix_seq o2_ix (sx_var 1) sx_int) sak_nil))) (sx_one (sx_and (sx_cmp (op_eqD hr.units) o2_eq (sx_ix ix_seq o2_ix (sx_var 0) sx_int) (sx_ix ix_seq o2_ix (sx_var 1) sx_int)) (sx_one (sx_ownK K_less (hr.mono (by decide)) (by rfl) (sak_cp (sx_ix ix_seq o2_ix (sx_var 0) sx_int) (sak_cp (sx_ix ix_seq o2_ix (sx_var 1) sx_int) sak_nil))))))))))
    (fun h => nomatch h)
theorem ok_in_order (T_ : Facts K mg) (K_sooner : Known P w K mg "sooner" 2 ["one", "other"] [false, false] false sem_sooner) : Known P w K mg "in_order" 3 ["points"] [false] false sem_in_order :=
  known_def (k := 2) (Ns := N_in_order) (pl := []) (κ' := [false, false, false, false, false, false]) T_.h_in_order (fun _ _ _ _ _ _ us hl => match us, hl with | [_], _ => rfl) sc_in_order rfl rfl (fun fa base cdv A outer s H E hr =>
    (sss_cons (ss_asg 1 (sx_last (sx_lst sa_nil)) sc_in_order.nd) (sss_cons (ss_for PassesOwn.never rfl (si_any (sx_var 0)) (sg_name 2 sc_in_order.nd) (sss_cons (ss_par 3 4 (sa_cons sx_int (sa_cons (sx_callB call_len fn_len (by rfl) T_.n_len PySem.boot_len (sa_cons (sx_var 1) sa_nil)) sa_nil)) rfl sc_in_order.nd) (sss_cons (ss_while PassesOwn.never (st_cmp op_lt o2_lt (sx_var 3) (sx_var 4)) (sss_cons (ss_asg 5 (sx_bin op_divX o2_div (sx_bin op_addX o2_add (sx_var 3) (sx_var 4)) sx_int) sc_in_order.nd) (sss_cons (κ1 := [false, false, false, false, false, false]) (ss_if (st_tru (sx_ownK K_sooner (hr.mono (by decide)) (by rfl) (sak_cp (sx_ix ix_seq o2_ix (sx_var 1) (sx_var 5)) (sak_cp (sx_var 2) sak_nil)))) (sss_cons (ss_asg 3 (sx_bin op_addX o2_add (sx_var 5) sx_int) sc_in_order.nd) sss_nil) (sss_cons (ss_asg 4 (sx_var 5) sc_in_order.nd) sss_nil)) sss_nil))) (sss_cons (κ1 := [false, false, false, false, false, false]) (ss_if (PW.pt (sw_or (st_cmp (op_eqD hr.units) o2_eq (sx_var 3) (sx_callB call_len fn_len (by rfl) T_.n_len PySem.boot_len (sa_cons (sx_var 1) sa_nil))) (sw_or1 (st_cmp (op_neD hr.units) o2_ne (sx_ix ix_seq o2_ix (sx_var 1) (sx_var 3)) (sx_var 2))))) (sss_cons (ss_asg 1 (sx_bin op_addX o2_add (sx_bin op_addX o2_add (sx_sl sl_seq slt_seq (sx_var 1) so_none (so_some (sx_var 3))) (sx_last (sx_lst (sa_cons (sx_var 2) sa_nil)))) (sx_sl sl_seq slt_seq (sx_var 1) (so_some (sx_var 3)) so_none)) sc_in_order.nd) sss_nil) sss_nil) (sss_kill 2 false (sss_kill 3 false (sss_kill 4 false (sss_kill 5 false sss_nil)))))))) (sss_one (ss_ret (sx_var 1))))))
    (fun h => nomatch h)
theorem ok_turn (T_ : Facts K mg) (K_times : Known P w K mg "times" 2 ["a", "b"] [false, false] false sem_times) (K_minus : Known P w K mg "minus" 2 ["a", "b"] [false, false] false sem_minus) : Known P w K mg "turn" 3 ["one", "other", "third"] [false, false, false] false sem_turn :=
  known_def (k := 2) (Ns := N_turn) (pl := []) (κ' := [false, false, false, false]) T_.h_turn (fun _ _ _ _ _ _ us hl => match us, hl with | [_, _, _], _ => rfl) sc_turn rfl rfl (fun fa base cdv A outer s H E hr =>
    (sss_cons (ss_asg 3 (sx_ownK K_times (hr.mono (by decide)) (by rfl) (sak_cp (sx_ownK K_minus (hr.mono (by decide)) (by rfl) (sak_cp (sx_ix ix_seq o2_ix (sx_var 1) sx_int) (sak_cp (sx_ix ix_seq o2_ix (sx_var 0) sx_int) sak_nil))) (sak_cp (sx_ownK K_minus (hr.mono (by decide)) (by rfl) (sak_cp (sx_ix ix_seq o2_ix (sx_var 2) sx_int) (sak_cp (sx_ix ix_seq o2_ix (sx_var 0) sx_int) sak_nil))) sak_nil))) sc_turn.nd) (sss_one (ss_ret (sx_ownK K_minus (hr.mono (by decide)) (by rfl) (sak_cp (sx_var 3) (sak_cp (sx_ownK K_times (hr.mono (by decide)) (by rfl) (sak_cp (sx_ownK K_minus (hr.mono (by decide)) (by rfl) (sak_cp (sx_ix ix_seq o2_ix (sx_var 1) sx_int) (sak_cp (sx_ix ix_seq o2_ix (sx_var 0) sx_int) sak_nil))) (sak_cp (sx_ownK K_minus (hr.mono (by decide)) (by rfl) (sak_cp (sx_ix ix_seq o2_ix (sx_var 2) sx_int) (sak_cp (sx_ix ix_seq o2_ix (sx_var 0) sx_int) sak_nil))) sak_nil))) sak_nil)))))))
    (fun h => nomatch h)
theorem ok_chain (T_ : Facts K mg) (K_less : Known P w K mg "less" 1 ["a", "b"] [false, false] false sem_less) (K_turn : Known P w K mg "turn" 3 ["one", "other", "third"] [false, false, false] false sem_turn) : Known P w K mg "chain" 4 ["points"] [false] false sem_chain :=
  known_def (k := 3) (Ns := N_chain) (pl := []) (κ' := [false, false, false]) T_.h_chain (fun _ _ _ _ _ _ us hl => match us, hl with | [_], _ => rfl) sc_chain rfl rfl (fun fa base cdv A outer s H E hr =>
    (sss_cons (ss_asgO 1 (sx_lst sa_nil) sc_chain.nd) (sss_cons (ss_for PassesOwn.never rfl (si_any (sx_var 0)) (sg_name 2 sc_chain.nd) (sss_cons (ss_while PassesOwn.never (PW.pt (sw_and (st_cmp op_gt o2_gt (sx_callB call_len fn_len (by rfl) T_.n_len PySem.boot_len (sa_cons (sx_own 1) sa_nil)) sx_int) (sw_and1 (st_not (st_tru (sx_ownK K_less (hr.mono (by decide)) (by rfl) (sak_cp (sx_cst (by rfl) T_.c_NOUGHT) (sak_cp (sx_ownK K_turn (hr.mono (by decide)) (by rfl) (sak_cp (sx_ix ix_seq o2_ix (sx_own 1) (sx_un un_neg o1_neg sx_int)) (sak_cp (sx_ix ix_seq o2_ix (sx_own 1) (sx_un un_neg o1_neg sx_int)) (sak_cp (sx_var 2) sak_nil)))) sak_nil)))))))) (sss_cons (ss_asgO 1 (sx_sl sl_list slt_new (sx_own 1) so_none (so_some (sx_un un_neg o1_neg sx_int))) sc_chain.nd) sss_nil)) (sss_cons (ss_drop (sx_mut 1 PySem.F.plainAttrs_list PySem.F.slot_list_append PySem.F.type_list_append mt_append mu_app (fun _ _ _ _ _ => tyL) (sa_cons (sx_var 2) sa_nil))) (sss_kill 2 false sss_nil)))) (sss_freeze 1 (sss_one (ss_ret (sx_var 1)))))))
    (fun h => nomatch h)
theorem ok_hull (T_ : Facts K mg) (K_in_order : Known P w K mg "in_order" 3 ["points"] [false] false sem_in_order) (K_chain : Known P w K mg "chain" 4 ["points"] [false] false sem_chain) : Known P w K mg "hull" 5 ["points"] [false] false sem_hull :=
  known_def (k := 4) (Ns := N_hull) (pl := []) (κ' := [false, false]) T_.h_hull (fun _ _ _ _ _ _ us hl => match us, hl with | [_], _ => rfl) sc_hull rfl rfl (fun fa base cdv A outer s H E hr =>
    (sss_cons (ss_asg 1 (sx_ownK K_in_order (hr.mono (by decide)) (by rfl) (sak_cp (sx_var 0) sak_nil)) sc_hull.nd) (sss_cons (κ1 := [false, false]) (ss_if (st_cmp op_lt o2_lt (sx_callB call_len fn_len (by rfl) T_.n_len PySem.boot_len (sa_cons (sx_var 1) sa_nil)) sx_int) (sss_one (ss_ret (sx_var 1))) sss_nil) (sss_one (ss_ret (sx_bin op_addX o2_add (sx_sl sl_seq slt_seq (sx_ownK K_chain (hr.mono (by decide)) (by rfl) (sak_cp (sx_var 1) sak_nil)) so_none (so_some (sx_un un_neg o1_neg sx_int))) (sx_sl sl_seq slt_seq (sx_ownK K_chain (hr.mono (by decide)) (by rfl) (sak_cp (sx_last (sx_rev (sx_var 1))) sak_nil)) so_none (so_some (sx_un un_neg o1_neg sx_int)))))))))
    (fun h => nomatch h)
theorem ok_sides (T_ : Facts K mg) : Known P w K mg "sides" 1 ["shape"] [false] false sem_sides :=
  known_def (k := 0) (Ns := N_sides) (pl := []) (κ' := [false, false]) T_.h_sides (fun _ _ _ _ _ _ us hl => match us, hl with | [_], _ => rfl) sc_sides rfl rfl (fun fa base cdv A outer s H E hr =>
    (sss_one (ss_ret (sx_last (sx_lc (own' := [("at", 1)])  rfl sc_sides.nd (si_r1 (by rfl) T_.n_range (sa_cons (sx_callB call_len fn_len (by rfl) T_.n_len PySem.boot_len (sa_cons (sx_var 0) sa_nil)) sa_nil)) (blkOk_by (N := N_sides) (sc := defScope S_sides) (by decide +kernel)) (fun _ _ _ _ _ => (sg_name 1 sc_sides.nd)) (fun _ _ _ _ _ => sts_nil) (fun _ _ _ _ _ => (sx_tup (sa_cons (sx_ix ix_seq o2_ix (sx_var 0) (sx_bin op_sub o2_sub (sx_var 1) sx_int)) (sa_cons (sx_ix ix_seq o2_ix (sx_var 0) (sx_var 1)) sa_nil)))))))))
    (fun h => nomatch h)
theorem ok_has (T_ : Facts K mg) (K_turn : Known P w K mg "turn" 3 ["one", "other", "third"] [false, false, false] false sem_turn) (K_sooner : Known P w K mg "sooner" 2 ["one", "other"] [false, false] false sem_sooner) (K_less : Known P w K mg "less" 1 ["a", "b"] [false, false] false sem_less) (K_sides : Known P w K mg "sides" 1 ["shape"] [false] false sem_sides) : Known P w K mg "has" 4 ["shape", "point"] [false, false] false sem_has :=
  known_def (k := 3) (Ns := N_has) (pl := []) (κ' := [false, false, false, false]) T_.h_has (fun _ _ _ _ _ _ us hl => match us, hl with | [_, _], _ => rfl) sc_has rfl rfl (fun fa base cdv A outer s H E hr =>
    (sss_cons (κ1 := [false, false, false, false]) (ss_if (st_cmp (op_eqD hr.units) o2_eq (sx_callB call_len fn_len (by rfl) T_.n_len PySem.boot_len (sa_cons (sx_var 0) sa_nil)) sx_int) (sss_one (ss_ret (sx_cmp (op_eqD hr.units) o2_eq (sx_ix ix_seq o2_ix (sx_var 0) sx_int) (sx_var 1)))) sss_nil) (sss_cons (κ1 := [false, false, false, false]) (ss_if (st_cmp (op_eqD hr.units) o2_eq (sx_callB call_len fn_len (by rfl) T_.n_len PySem.boot_len (sa_cons (sx_var 0) sa_nil)) sx_int) (sss_cons (ss_asgT (sx_var 0) (sg_seq rfl (sgs_cons (sg_name 2 sc_has.nd) (sgs_cons (sg_name 3 sc_has.nd) sgs_nil)))) (sss_one (ss_ret (sx_and (sx_cmp (op_eqD hr.units) o2_eq (sx_ownK K_turn (hr.mono (by decide)) (by rfl) (sak_cp (sx_var 2) (sak_cp (sx_var 3) (sak_cp (sx_var 1) sak_nil)))) (sx_cst (by rfl) T_.c_NOUGHT)) (sx_and (sx_not (sx_ownK K_sooner (hr.mono (by decide)) (by rfl) (sak_cp (sx_var 1) (sak_cp (sx_var 2) sak_nil)))) (sx_one (sx_not (sx_ownK K_sooner (hr.mono (by decide)) (by rfl) (sak_cp (sx_var 3) (sak_cp (sx_var 1) sak_nil)))))))))) sss_nil) (sss_one (ss_ret (sx_not (sx_callB (cr_any rfl) fn_any (by rfl) T_.n_any (by decide +kernel) (sa_cons (sx_last (sx_lc (own' := [("one", 2), ("other", 3)])  rfl sc_has.nd (si_any (sx_ownK K_sides (hr.mono (by decide)) (by rfl) (sak_cp (sx_var 0) sak_nil))) (blkOk_by (N := N_has) (sc := defScope S_has) (by decide +kernel)) (fun _ _ _ _ _ => (sg_seq rfl (sgs_cons (sg_name 2 sc_has.nd) (sgs_cons (sg_name 3 sc_has.nd) sgs_nil)))) (fun _ _ _ _ _ => sts_nil) (fun _ _ _ _ _ => (sx_ownK K_less (hr.mono (by decide)) (by rfl) (sak_cp (sx_ownK K_turn (hr.mono (by decide)) (by rfl) (sak_cp (sx_var 2) (sak_cp (sx_var 3) (sak_cp (sx_var 1) sak_nil)))) (sak_cp (sx_cst (by rfl) T_.c_NOUGHT) sak_nil)))))) sa_nil))))))))
    (fun h => nomatch h)
theorem ok_area (T_ : Facts K mg) (K_sides : Known P w K mg "sides" 1 ["shape"] [false] false sem_sides) (K_over : Known P w K mg "over" 2 ["a", "b"] [false, false] false sem_over) (K_plus : Known P w K mg "plus" 2 ["a", "b"] [false, false] false sem_plus) (K_minus : Known P w K mg "minus" 2 ["a", "b"] [false, false] false sem_minus) (K_times : Known P w K mg "times" 2 ["a", "b"] [false, false] false sem_times) : Known P w K mg "area" 3 ["shape"] [false] false sem_area :=
  known_def (k := 2) (Ns := N_area) (pl := []) (κ' := [false, false, false, false]) T_.h_area (fun _ _ _ _ _ _ us hl => match us, hl with | [_], _ => rfl) sc_area rfl rfl (fun fa base cdv A outer s H E hr =>
    (sss_cons (ss_asg 1 (sx_cst (by rfl) T_.c_NOUGHT) sc_area.nd) (sss_cons (ss_for PassesOwn.never rfl (si_any (sx_ownK K_sides (hr.mono (by decide)) (by rfl) (sak_cp (sx_var 0) sak_nil))) (sg_seq rfl (sgs_cons (sg_name 2 sc_area.nd) (sgs_cons (sg_name 3 sc_area.nd) sgs_nil))) (sss_cons (ss_asg 1 (sx_ownK K_plus (hr.mono (by decide)) (by rfl) (sak_cp (sx_var 1) (sak_cp (sx_ownK K_minus (hr.mono (by decide)) (by rfl) (sak_cp (sx_ownK K_times (hr.mono (by decide)) (by rfl) (sak_cp (sx_ix ix_seq o2_ix (sx_var 2) sx_int) (sak_cp (sx_ix ix_seq o2_ix (sx_var 3) sx_int) sak_nil))) (sak_cp (sx_ownK K_times (hr.mono (by decide)) (by rfl) (sak_cp (sx_ix ix_seq o2_ix (sx_var 3) sx_int) (sak_cp (sx_ix ix_seq o2_ix (sx_var 2) sx_int) sak_nil))) sak_nil))) sak_nil))) sc_area.nd) (sss_kill 2 false (sss_kill 3 false sss_nil)))) (sss_one (ss_ret (sx_ownK K_over (hr.mono (by decide)) (by rfl) (sak_cp (sx_var 1) (sak_cp (sx_tup (sa_cons sx_int (sa_cons sx_int sa_nil))) sak_nil))))))))
    (fun h => nomatch h)
theorem ok_along (T_ : Facts K mg) (K_plus : Known P w K mg "plus" 2 ["a", "b"] [false, false] false sem_plus) (K_times : Known P w K mg "times" 2 ["a", "b"] [false, false] false sem_times) : Known P w K mg "along" 3 ["point", "direction"] [false, false] false sem_along :=
  known_def (k := 2) (Ns := N_along) (pl := []) (κ' := [false, false]) T_.h_along (fun _ _ _ _ _ _ us hl => match us, hl with | [_, _], _ => rfl) sc_along rfl rfl (fun fa base cdv A outer s H E hr =>
    (sss_one (ss_ret (sx_ownK K_plus (hr.mono (by decide)) (by rfl) (sak_cp (sx_ownK K_times (hr.mono (by decide)) (by rfl) (sak_cp (sx_ix ix_seq o2_ix (sx_var 1) sx_int) (sak_cp (sx_ix ix_seq o2_ix (sx_var 0) sx_int) sak_nil))) (sak_cp (sx_ownK K_times (hr.mono (by decide)) (by rfl) (sak_cp (sx_ix ix_seq o2_ix (sx_var 1) sx_int) (sak_cp (sx_ix ix_seq o2_ix (sx_var 0) sx_int) sak_nil))) sak_nil))))))
    (fun h => nomatch h)
theorem ok_above (T_ : Facts K mg) (K_minus : Known P w K mg "minus" 2 ["a", "b"] [false, false] false sem_minus) (K_along : Known P w K mg "along" 3 ["point", "direction"] [false, false] false sem_along) : Known P w K mg "above" 4 ["half", "point"] [false, false] false sem_above :=
  known_def (k := 3) (Ns := N_above) (pl := []) (κ' := [false, false]) T_.h_above (fun _ _ _ _ _ _ us hl => match us, hl with | [_, _], _ => rfl) sc_above rfl rfl (fun fa base cdv A outer s H E hr =>
    (sss_one (ss_ret (sx_ownK K_minus (hr.mono (by decide)) (by rfl) (sak_cp (sx_ownK K_along (hr.mono (by decide)) (by rfl) (sak_cp (sx_var 1) (sak_cp (sx_sl sl_seq slt_seq (sx_var 0) so_none (so_some sx_int)) sak_nil))) (sak_cp (sx_ix ix_seq o2_ix (sx_var 0) sx_int) sak_nil))))))
    (fun h => nomatch h)
theorem ok_between (T_ : Facts K mg) (K_plus : Known P w K mg "plus" 2 ["a", "b"] [false, false] false sem_plus) (K_times : Known P w K mg "times" 2 ["a", "b"] [false, false] false sem_times) (K_minus : Known P w K mg "minus" 2 ["a", "b"] [false, false] false sem_minus) : Known P w K mg "between" 3 ["one", "other", "part"] [false, false, false] false sem_between :=
  known_def (k := 2) (Ns := N_between) (pl := []) (κ' := [false, false, false, false]) T_.h_between (fun _ _ _ _ _ _ us hl => match us, hl with | [_, _, _], _ => rfl) sc_between rfl rfl (fun fa base cdv A outer s H E hr =>
    (sss_one (ss_ret (sx_callTy call_tuple_of fn_tupOf (by rfl) T_.n_tuple (by decide +kernel) (sa_cons (sx_last (sx_lc (own' := [("k", 3)])  rfl sc_between.nd (si_tup (sx_tup (sa_cons sx_int (sa_cons sx_int sa_nil)))) (blkOk_by (N := N_between) (sc := defScope S_between) (by decide +kernel)) (fun _ _ _ _ _ => (sg_name 3 sc_between.nd)) (fun _ _ _ _ _ => sts_nil) (fun _ _ _ _ _ => (sx_ownK K_plus (hr.mono (by decide)) (by rfl) (sak_cp (sx_ix ix_seq o2_ix (sx_var 0) (sx_var 3)) (sak_cp (sx_ownK K_times (hr.mono (by decide)) (by rfl) (sak_cp (sx_var 2) (sak_cp (sx_ownK K_minus (hr.mono (by decide)) (by rfl) (sak_cp (sx_ix ix_seq o2_ix (sx_var 1) (sx_var 3)) (sak_cp (sx_ix ix_seq o2_ix (sx_var 0) (sx_var 3)) sak_nil))) sak_nil))) sak_nil)))))) sa_nil)))))
    (fun h => nomatch h)
theorem ok_cut (T_ : Facts K mg) (K_sides : Known P w K mg "sides" 1 ["shape"] [false] false sem_sides) (K_hull : Known P w K mg "hull" 5 ["points"] [false] false sem_hull) (K_above : Known P w K mg "above" 4 ["half", "point"] [false, false] false sem_above) (K_less : Known P w K mg "less" 1 ["a", "b"] [false, false] false sem_less) (K_between : Known P w K mg "between" 3 ["one", "other", "part"] [false, false, false] false sem_between) (K_over : Known P w K mg "over" 2 ["a", "b"] [false, false] false sem_over) (K_minus : Known P w K mg "minus" 2 ["a", "b"] [false, false] false sem_minus) : Known P w K mg "cut" 6 ["shape", "half"] [false, false] false sem_cut :=
  known_def (k := 5) (Ns := N_cut) (pl := []) (κ' := [false, false, false, false, false, false, false, false]) T_.h_cut (fun _ _ _ _ _ _ us hl => match us, hl with | [_, _], _ => rfl) sc_cut rfl rfl (fun fa base cdv A outer s H E hr =>
    (sss_cons (ss_setLc 2 true (own' := [("point", 7)])  rfl sc_cut.nd (si_any (sx_var 0)) (blkOk_by (N := N_cut) (sc := defScope S_cut) (by decide +kernel)) (fun _ _ _ _ _ => (sg_name 7 sc_cut.nd)) (fun _ _ _ _ _ => (sts_one (st_not (st_tru (sx_ownK K_less (hr.mono (by decide)) (by rfl) (sak_cp (sx_cst (by rfl) T_.c_NOUGHT) (sak_cp (sx_ownK K_above (hr.mono (by decide)) (by rfl) (sak_cp (sx_var 1) (sak_cp (sx_var 7) sak_nil))) sak_nil))))))) (fun _ _ _ _ _ => (sx_var 7)) (sw_true rfl rfl rfl (by decide +kernel))) (sss_cons (ss_for PassesOwn.never rfl (si_any (sx_ownK K_sides (hr.mono (by decide)) (by rfl) (sak_cp (sx_var 0) sak_nil))) (sg_seq rfl (sgs_cons (sg_name 3 sc_cut.nd) (sgs_cons (sg_name 4 sc_cut.nd) sgs_nil))) (sss_cons (ss_par 5 6 (sa_cons (sx_ownK K_above (hr.mono (by decide)) (by rfl) (sak_cp (sx_var 1) (sak_cp (sx_var 3) sak_nil))) (sa_cons (sx_ownK K_above (hr.mono (by decide)) (by rfl) (sak_cp (sx_var 1) (sak_cp (sx_var 4) sak_nil))) sa_nil)) rfl sc_cut.nd) (sss_cons (κ1 := [false, false, true, false, false, false, false, false]) (ss_if (PW.pt (sw_or (PW.pt (sw_and (st_tru (sx_ownK K_less (hr.mono (by decide)) (by rfl) (sak_cp (sx_var 5) (sak_cp (sx_cst (by rfl) T_.c_NOUGHT) sak_nil)))) (sw_and1 (st_tru (sx_ownK K_less (hr.mono (by decide)) (by rfl) (sak_cp (sx_cst (by rfl) T_.c_NOUGHT) (sak_cp (sx_var 6) sak_nil))))))) (sw_or1 (PW.pt (sw_and (st_tru (sx_ownK K_less (hr.mono (by decide)) (by rfl) (sak_cp (sx_cst (by rfl) T_.c_NOUGHT) (sak_cp (sx_var 5) sak_nil)))) (sw_and1 (st_tru (sx_ownK K_less (hr.mono (by decide)) (by rfl) (sak_cp (sx_var 6) (sak_cp (sx_cst (by rfl) T_.c_NOUGHT) sak_nil)))))))))) (sss_cons (ss_drop (sx_mut 2 PySem.F.plainAttrs_list PySem.F.slot_list_append PySem.F.type_list_append mt_append mu_app (fun _ _ _ _ _ => tyL) (sa_cons (sx_ownK K_between (hr.mono (by decide)) (by rfl) (sak_cp (sx_var 3) (sak_cp (sx_var 4) (sak_cp (sx_ownK K_over (hr.mono (by decide)) (by rfl) (sak_cp (sx_var 5) (sak_cp (sx_ownK K_minus (hr.mono (by decide)) (by rfl) (sak_cp (sx_var 5) (sak_cp (sx_var 6) sak_nil))) sak_nil))) sak_nil)))) sa_nil))) sss_nil) sss_nil) (sss_kill 3 false (sss_kill 4 false (sss_kill 5 false (sss_kill 6 false sss_nil))))))) (sss_freeze 2 (sss_one (ss_ret (sx_if (st_tru (sx_var 2)) (sx_ownK K_hull (hr.mono (by decide)) (by rfl) (sak_cp (sx_var 2) sak_nil)) sx_non)))))))
    (fun h => nomatch h)
theorem ok__law_mixed (T_ : Facts K mg) : Known P w K mg "_law_mixed" 1 ["number", "place"] [false, false] false sem__law_mixed :=
  known_def (k := 0) (Ns := N__law_mixed) (pl := []) (κ' := [false, false, false, false, false]) T_.h__law_mixed (fun _ _ _ _ _ _ us hl => match us, hl with | [_, _], _ => rfl) sc__law_mixed rfl rfl (fun fa base cdv A outer s H E hr =>
    (sss_cons (ss_asg 2 (sx_bin op_modN o2_mod (sx_callTy call_int1 fn_int (by rfl) T_.n_int (by decide +kernel) (sa_cons (sx_bin op_addX o2_add (sx_bin op_addX o2_add (sx_bin op_mulY o2_mul (sx_var 0) sx_int) (sx_bin op_mulY o2_mul (sx_var 1) sx_int)) sx_int) sa_nil)) sx_int) sc__law_mixed.nd) (sss_cons (ss_asg 3 (sx_bin op_modN o2_mod (sx_callTy call_int1 fn_int (by rfl) T_.n_int (by decide +kernel) (sa_cons (sx_bin op_addX o2_add (sx_bin op_addX o2_add (sx_bin op_mulY o2_mul (sx_var 2) (sx_var 2)) (sx_bin op_mulY o2_mul sx_int (sx_var 2))) (sx_var 1)) sa_nil)) sx_int) sc__law_mixed.nd) (sss_cons (ss_asg 4 (sx_bin op_modN o2_mod (sx_callTy call_int1 fn_int (by rfl) T_.n_int (by decide +kernel) (sa_cons (sx_bin op_addX o2_add (sx_bin op_mulY o2_mul (sx_var 3) (sx_var 3)) (sx_var 2)) sa_nil)) sx_int) sc__law_mixed.nd) (sss_one (ss_ret (sx_bin op_addX o2_add (sx_bin op_mulY o2_mul (sx_var 3) sx_int) (sx_var 4))))))))
    (fun h => nomatch h)
theorem ok__law_rest (T_ : Facts K mg) (K__law_mixed : Known P w K mg "_law_mixed" 1 ["number", "place"] [false, false] false sem__law_mixed) : Known P w K mg "_law_rest" 2 ["script", "place", "fills"] [false, false, false] false sem__law_rest :=
  known_def (k := 1) (Ns := N__law_rest) (pl := []) (κ' := [false, false, false, false]) T_.h__law_rest (fun _ _ _ _ _ _ us hl => match us, hl with | [_, _, _], _ => rfl) sc__law_rest rfl rfl (fun fa base cdv A outer s H E hr =>
    (sss_cons (ss_asg 3 sx_int sc__law_rest.nd) (sss_cons (κ1 := [false, false, false, false]) (ss_if (st_cmp op_gt o2_gt (sx_callB call_len fn_len (by rfl) T_.n_len PySem.boot_len (sa_cons (sx_var 0) sa_nil)) sx_int) (sss_cons (ss_asg 3 (sx_callTy call_int1 fn_int (by rfl) T_.n_int (by decide +kernel) (sa_cons (sx_ix ix_seq o2_ix (sx_var 0) (sx_bin op_modN o2_mod (sx_callTy call_int1 fn_int (by rfl) T_.n_int (by decide +kernel) (sa_cons (sx_var 1) sa_nil)) (sx_callB call_len fn_len (by rfl) T_.n_len PySem.boot_len (sa_cons (sx_var 0) sa_nil)))) sa_nil)) sc__law_rest.nd) sss_nil) sss_nil) (sss_cons (κ1 := [false, false, false, false]) (ss_if (st_cmp op_lt o2_lt (sx_var 3) sx_int) (sss_cons (ss_asg 3 (sx_bin op_sub o2_sub sx_int (sx_bin op_mulY o2_mul sx_int (sx_var 3))) sc__law_rest.nd) sss_nil) sss_nil) (sss_cons (κ1 := [false, false, false, false]) (ss_if (PW.pt (sw_and (st_cmp (op_eqD hr.units) o2_eq (sx_var 2) sx_int) (sw_and (st_cmp op_lt o2_lt (sx_var 1) (sx_callB call_len fn_len (by rfl) T_.n_len PySem.boot_len (sa_cons (sx_var 0) sa_nil))) (sw_and1 (st_cmp op_ge o2_ge (sx_var 3) (sx_bin op_pow o2_pow sx_int sx_int)))))) (sss_one (ss_ret (sx_bin op_sub o2_sub (sx_var 3) (sx_bin op_pow o2_pow sx_int sx_int)))) sss_nil) (sss_one (ss_ret (sx_ownK K__law_mixed (hr.mono (by decide)) (by rfl) (sak_cp (sx_bin op_addX o2_add (sx_var 3) (sx_bin op_mulY o2_mul (sx_var 2) sx_int)) (sak_cp (sx_var 1) sak_nil))))))))))
    (fun h => nomatch h)
theorem ok__law_pool (T_ : Facts K mg) (K__law_rest : Known P w K mg "_law_rest" 2 ["script", "place", "fills"] [false, false, false] false sem__law_rest) : Known P w K mg "_law_pool" 3 ["script"] [false] true sem__law_pool :=
  known_def (k := 2) (Ns := N__law_pool) (pl := []) (κ' := [false]) T_.h__law_pool (fun _ _ _ _ _ _ us hl => match us, hl with | [_], _ => rfl) sc__law_pool rfl rfl (fun fa base cdv A outer s H E hr =>
    (sss_one (ss_retO (sx_lst (sa_cons (sx_var 0) (sa_cons sx_int (sa_cons (sx_ownK K__law_rest (hr.mono (by decide)) (by rfl) (sak_cp (sx_var 0) (sak_cp sx_int (sak_cp sx_int sak_nil)))) (sa_cons sx_int sa_nil))))))))
    (fun _ => by
      show NoNx F__law_pool
      unfold F__law_pool
      repeat' (first | exact noNx_ret | exact noNx_no | refine noNx_seq ?_ | refine noNx_if ?_ ?_ | refine noNx_kill ?_))
theorem ok__law_next (T_ : Facts K mg) (K__law_rest : Known P w K mg "_law_rest" 2 ["script", "place", "fills"] [false, false, false] false sem__law_rest) : Known P w K mg "_law_next" 3 ["pool"] [true] false sem__law_next :=
  known_def (k := 2) (Ns := N__law_next) (pl := [0]) (κ' := [true]) T_.h__law_next (fun _ _ _ _ _ _ us hl => match us, hl with | [_], _ => rfl) sc__law_next rfl rfl (fun fa base cdv A outer s H E hr =>
    (sss_cons (ss_setI 0 (sx_bin op_addX o2_add (sx_ix ix_seq o2_ix (sx_own 0) sx_int) sx_int) sx_int) (sss_cons (ss_setI 0 (sx_ownK K__law_rest (hr.mono (by decide)) (by rfl) (sak_cp (sx_ix ix_seq o2_ix (sx_own 0) sx_int) (sak_cp (sx_ix ix_seq o2_ix (sx_own 0) sx_int) (sak_cp sx_int sak_nil)))) sx_int) (sss_cons (ss_setI 0 sx_int sx_int) sss_nil))))
    (fun h => nomatch h)
theorem ok__law_draw (T_ : Facts K mg) (K__law_rest : Known P w K mg "_law_rest" 2 ["script", "place", "fills"] [false, false, false] false sem__law_rest) : Known P w K mg "_law_draw" 3 ["pool", "limit"] [true, false] false sem__law_draw :=
  known_def (k := 2) (Ns := N__law_draw) (pl := [0]) (κ' := [false, false, false]) T_.h__law_draw (fun _ _ _ _ _ _ us hl => match us, hl with | [_, _], _ => rfl) sc__law_draw rfl rfl (fun fa base cdv A outer s H E hr =>
    (sss_cons (κ1 := [true, false, false]) (ss_if (st_cmp op_le o2_le (sx_ix ix_seq o2_ix (sx_own 0) sx_int) sx_int) (sss_cons (ss_setI 0 (sx_bin op_addX o2_add (sx_ix ix_seq o2_ix (sx_own 0) sx_int) sx_int) sx_int) (sss_cons (ss_setI 0 (sx_ownK K__law_rest (hr.mono (by decide)) (by rfl) (sak_cp (sx_ix ix_seq o2_ix (sx_own 0) sx_int) (sak_cp (sx_ix ix_seq o2_ix (sx_own 0) sx_int) (sak_cp (sx_ix ix_seq o2_ix (sx_own 0) sx_int) sak_nil)))) sx_int) sss_nil)) sss_nil) (sss_cons (ss_asg 2 (sx_bin op_modN o2_mod (sx_callTy call_int1 fn_int (by rfl) T_.n_int (by decide +kernel) (sa_cons (sx_ix ix_seq o2_ix (sx_own 0) sx_int) sa_nil)) (sx_var 1)) sc__law_draw.nd) (sss_cons (ss_setI 0 (sx_bin op_divX o2_div (sx_callTy call_int1 fn_int (by rfl) T_.n_int (by decide +kernel) (sa_cons (sx_ix ix_seq o2_ix (sx_own 0) sx_int) sa_nil)) (sx_var 1)) sx_int) (sss_one (ss_ret (sx_var 2)))))))
    (fun h => nomatch h)
theorem ok__law_pick (T_ : Facts K mg) (K__law_draw : Known P w K mg "_law_draw" 3 ["pool", "limit"] [true, false] false sem__law_draw) : Known P w K mg "_law_pick" 4 ["pool", "options"] [true, false] false sem__law_pick :=
  known_def (k := 3) (Ns := N__law_pick) (pl := [0]) (κ' := [false, false]) T_.h__law_pick (fun _ _ _ _ _ _ us hl => match us, hl with | [_, _], _ => rfl) sc__law_pick rfl rfl (fun fa base cdv A outer s H E hr =>
    (sss_one (ss_ret (sx_ix ix_seq o2_ix (sx_var 1) (sx_ownK K__law_draw (hr.mono (by decide)) (by rfl) (sak_io 0 (sak_cp (sx_callB call_len fn_len (by rfl) T_.n_len PySem.boot_len (sa_cons (sx_var 1) sa_nil)) sak_nil)))))))
    (fun h => nomatch h)
theorem ok__law_gcd (T_ : Facts K mg) : Known P w K mg "_law_gcd" 1 ["one", "other"] [false, false] false sem__law_gcd :=
  known_def (k := 0) (Ns := N__law_gcd) (pl := []) (κ' := [false, false, false]) T_.h__law_gcd (fun _ _ _ _ _ _ us hl => match us, hl with | [_, _], _ => rfl) sc__law_gcd rfl rfl (fun fa base cdv A outer s H E hr =>
    (sss_cons (ss_asg 0 (sx_callB call_abs fn_abs (by rfl) T_.n_abs (by decide +kernel) (sa_cons (sx_var 0) sa_nil)) sc__law_gcd.nd) (sss_cons (ss_asg 1 (sx_callB call_abs fn_abs (by rfl) T_.n_abs (by decide +kernel) (sa_cons (sx_var 1) sa_nil)) sc__law_gcd.nd) (sss_cons (ss_for PassesOwn.never rfl (si_r1 (by rfl) T_.n_range (sa_cons sx_int sa_nil)) (sg_name 2 sc__law_gcd.nd) (sss_cons (κ1 := [false, false, false]) (ss_if (st_cmp (op_eqD hr.units) o2_eq (sx_var 1) sx_int) (sss_kill 2 false (sss_one ss_break)) sss_nil) (sss_cons (ss_par 0 1 (sa_cons (sx_var 1) (sa_cons (sx_bin op_modN o2_mod (sx_callTy call_int1 fn_int (by rfl) T_.n_int (by decide +kernel) (sa_cons (sx_var 0) sa_nil)) (sx_var 1)) sa_nil)) rfl sc__law_gcd.nd) (sss_kill 2 false sss_nil)))) (sss_one (ss_ret (sx_var 0)))))))
    (fun h => nomatch h)
theorem ok__law_frac (T_ : Facts K mg) (K__law_gcd : Known P w K mg "_law_gcd" 1 ["one", "other"] [false, false] false sem__law_gcd) : Known P w K mg "_law_frac" 2 ["p", "q"] [false, false] false sem__law_frac :=
  known_def (k := 1) (Ns := N__law_frac) (pl := []) (κ' := [false, false, false]) T_.h__law_frac (fun _ _ _ _ _ _ us hl => match us, hl with | [_, _], _ => rfl) sc__law_frac rfl rfl (fun fa base cdv A outer s H E hr =>
    (sss_cons (ss_asg 2 (sx_ownK K__law_gcd (hr.mono (by decide)) (by rfl) (sak_cp (sx_var 0) (sak_cp (sx_var 1) sak_nil))) sc__law_frac.nd) (sss_cons (κ1 := [false, false, false]) (ss_if (st_cmp op_lt o2_lt (sx_var 1) sx_int) (sss_cons (ss_asg 2 (sx_un un_neg o1_neg (sx_var 2)) sc__law_frac.nd) sss_nil) sss_nil) (sss_one (ss_ret (sx_tup (sa_cons (sx_bin op_divX o2_div (sx_var 0) (sx_var 2)) (sa_cons (sx_bin op_divX o2_div (sx_var 1) (sx_var 2)) sa_nil))))))))
    (fun h => nomatch h)
theorem ok__law_plus (T_ : Facts K mg) (K__law_frac : Known P w K mg "_law_frac" 2 ["p", "q"] [false, false] false sem__law_frac) : Known P w K mg "_law_plus" 3 ["one", "other"] [false, false] false sem__law_plus :=
  known_def (k := 2) (Ns := N__law_plus) (pl := []) (κ' := [false, false]) T_.h__law_plus (fun _ _ _ _ _ _ us hl => match us, hl with | [_, _], _ => rfl) sc__law_plus rfl rfl (fun fa base cdv A outer s H E hr =>
    (sss_one (ss_ret (sx_ownK K__law_frac (hr.mono (by decide)) (by rfl) (sak_cp (sx_bin op_addX o2_add (sx_bin op_mulY o2_mul (sx_ix ix_seq o2_ix (sx_var 0) sx_int) (sx_ix ix_seq o2_ix (sx_var 1) sx_int)) (sx_bin op_mulY o2_mul (sx_ix ix_seq o2_ix (sx_var 1) sx_int) (sx_ix ix_seq o2_ix (sx_var 0) sx_int))) (sak_cp (sx_bin op_mulY o2_mul (sx_ix ix_seq o2_ix (sx_var 0) sx_int) (sx_ix ix_seq o2_ix (sx_var 1) sx_int)) sak_nil))))))
    (fun h => nomatch h)
theorem ok__law_times (T_ : Facts K mg) (K__law_frac : Known P w K mg "_law_frac" 2 ["p", "q"] [false, false] false sem__law_frac) : Known P w K mg "_law_times" 3 ["one", "other"] [false, false] false sem__law_times :=
  known_def (k := 2) (Ns := N__law_times) (pl := []) (κ' := [false, false]) T_.h__law_times (fun _ _ _ _ _ _ us hl => match us, hl with | [_, _], _ => rfl) sc__law_times rfl rfl (fun fa base cdv A outer s H E hr =>
    (sss_one (ss_ret (sx_ownK K__law_frac (hr.mono (by decide)) (by rfl) (sak_cp (sx_bin op_mulY o2_mul (sx_ix ix_seq o2_ix (sx_var 0) sx_int) (sx_ix ix_seq o2_ix (sx_var 1) sx_int)) (sak_cp (sx_bin op_mulY o2_mul (sx_ix ix_seq o2_ix (sx_var 0) sx_int) (sx_ix ix_seq o2_ix (sx_var 1) sx_int)) sak_nil))))))
    (fun h => nomatch h)
theorem ok__law_under (T_ : Facts K mg) : Known P w K mg "_law_under" 1 ["one", "other"] [false, false] false sem__law_under :=
  known_def (k := 0) (Ns := N__law_under) (pl := []) (κ' := [false, false]) T_.h__law_under (fun _ _ _ _ _ _ us hl => match us, hl with | [_, _], _ => rfl) sc__law_under rfl rfl (fun fa base cdv A outer s H E hr =>
    (sss_one (ss_ret (sx_cmp op_lt o2_lt (sx_bin op_mulY o2_mul (sx_ix ix_seq o2_ix (sx_var 0) sx_int) (sx_ix ix_seq o2_ix (sx_var 1) sx_int)) (sx_bin op_mulY o2_mul (sx_ix ix_seq o2_ix (sx_var 1) sx_int) (sx_ix ix_seq o2_ix (sx_var 0) sx_int))))))
    (fun h => nomatch h)
theorem ok__law_minus (T_ : Facts K mg) (K__law_plus : Known P w K mg "_law_plus" 3 ["one", "other"] [false, false] false sem__law_plus) : Known P w K mg "_law_minus" 4 ["one", "other"] [false, false] false sem__law_minus :=
  known_def (k := 3) (Ns := N__law_minus) (pl := []) (κ' := [false, false]) T_.h__law_minus (fun _ _ _ _ _ _ us hl => match us, hl with | [_, _], _ => rfl) sc__law_minus rfl rfl (fun fa base cdv A outer s H E hr =>
    (sss_one (ss_ret (sx_ownK K__law_plus (hr.mono (by decide)) (by rfl) (sak_cp (sx_var 0) (sak_cp (sx_tup (sa_cons (sx_un un_neg o1_neg (sx_ix ix_seq o2_ix (sx_var 1) sx_int)) (sa_cons (sx_ix ix_seq o2_ix (sx_var 1) sx_int) sa_nil))) sak_nil))))))
    (fun h => nomatch h)
theorem ok__law_over (T_ : Facts K mg) (K__law_frac : Known P w K mg "_law_frac" 2 ["p", "q"] [false, false] false sem__law_frac) : Known P w K mg "_law_over" 3 ["one", "other"] [false, false] false sem__law_over :=
  known_def (k := 2) (Ns := N__law_over) (pl := []) (κ' := [false, false]) T_.h__law_over (fun _ _ _ _ _ _ us hl => match us, hl with | [_, _], _ => rfl) sc__law_over rfl rfl (fun fa base cdv A outer s H E hr =>
    (sss_one (ss_ret (sx_ownK K__law_frac (hr.mono (by decide)) (by rfl) (sak_cp (sx_bin op_mulY o2_mul (sx_ix ix_seq o2_ix (sx_var 0) sx_int) (sx_ix ix_seq o2_ix (sx_var 1) sx_int)) (sak_cp (sx_bin op_mulY o2_mul (sx_ix ix_seq o2_ix (sx_var 0) sx_int) (sx_ix ix_seq o2_ix (sx_var 1) sx_int)) sak_nil))))))
    (fun h => nomatch h)
theorem ok__law_number (T_ : Facts K mg) (K__law_pick : Known P w K mg "_law_pick" 4 ["pool", "options"] [true, false] false sem__law_pick) (K__law_frac : Known P w K mg "_law_frac" 2 ["p", "q"] [false, false] false sem__law_frac) (K__law_draw : Known P w K mg "_law_draw" 3 ["pool", "limit"] [true, false] false sem__law_draw) : Known P w K mg "_law_number" 5 ["pool", "top"] [true, false] false sem__law_number :=
  known_def (k := 4) (Ns := N__law_number) (pl := [0]) (κ' := [false, false, false]) T_.h__law_number (fun _ _ _ _ _ _ us hl => match us, hl with | [_, _], _ => rfl) sc__law_number rfl rfl (fun fa base cdv A outer s H E hr =>
    (sss_cons (ss_asg 2 (sx_ownK K__law_pick (hr.mono (by decide)) (by rfl) (sak_io 0 (sak_cp (sx_last (sx_lst (sa_cons sx_int (sa_cons sx_int (sa_cons sx_int (sa_cons sx_int (sa_cons sx_int sa_nil))))))) sak_nil))) sc__law_number.nd) (sss_one (ss_ret (sx_ownK K__law_frac (hr.mono (by decide)) (by rfl) (sak_cp (sx_bin op_sub o2_sub (sx_ownK K__law_draw (hr.mono (by decide)) (by rfl) (sak_io 0 (sak_cp (sx_bin op_addX o2_add (sx_bin op_mulY o2_mul (sx_bin op_mulY o2_mul sx_int (sx_var 1)) (sx_var 2)) sx_int) sak_nil))) (sx_bin op_mulY o2_mul (sx_var 1) (sx_var 2))) (sak_cp (sx_var 2) sak_nil)))))))
    (fun h => nomatch h)
theorem ok__law_point (T_ : Facts K mg) (K__law_number : Known P w K mg "_law_number" 5 ["pool", "top"] [true, false] false sem__law_number) : Known P w K mg "_law_point" 6 ["pool", "top"] [true, false] false sem__law_point :=
  known_def (k := 5) (Ns := N__law_point) (pl := [0]) (κ' := [false, false]) T_.h__law_point (fun _ _ _ _ _ _ us hl => match us, hl with | [_, _], _ => rfl) sc__law_point rfl rfl (fun fa base cdv A outer s H E hr =>
    (sss_one (ss_ret (sx_tup (sa_cons (sx_ownK K__law_number (hr.mono (by decide)) (by rfl) (sak_io 0 (sak_cp (sx_var 1) sak_nil))) (sa_cons (sx_ownK K__law_number (hr.mono (by decide)) (by rfl) (sak_io 0 (sak_cp (sx_var 1) sak_nil))) sa_nil))))))
    (fun h => nomatch h)
theorem ok__law_points (T_ : Facts K mg) (K__law_next : Known P w K mg "_law_next" 3 ["pool"] [true] false sem__law_next) (K__law_draw : Known P w K mg "_law_draw" 3 ["pool", "limit"] [true, false] false sem__law_draw) (K__law_point : Known P w K mg "_law_point" 6 ["pool", "top"] [true, false] false sem__law_point) : Known P w K mg "_law_points" 7 ["pool", "most", "top"] [true, false, false] false sem__law_points :=
  known_def (k := 6) (Ns := N__law_points) (pl := [0]) (κ' := [false, false, false, false, false, false]) T_.h__law_points (fun _ _ _ _ _ _ us hl => match us, hl with | [_, _, _], _ => rfl) sc__law_points rfl rfl (fun fa base cdv A outer s H E hr =>
    (sss_cons (ss_asgO 3 (sx_lst sa_nil) sc__law_points.nd) (sss_cons (ss_for PassesOwn.never rfl (si_r1 (by rfl) T_.n_range (sa_cons (sx_bin op_addX o2_add sx_int (sx_ownK K__law_draw (hr.mono (by decide)) (by rfl) (sak_io 0 (sak_cp (sx_var 1) sak_nil)))) sa_nil)) (sg_name 4 sc__law_points.nd) (sss_cons (ss_drop (sx_ownK K__law_next (hr.mono (by decide)) (by rfl) (sak_io 0 sak_nil))) (sss_cons (ss_drop (sx_mut 3 PySem.F.plainAttrs_list PySem.F.slot_list_append PySem.F.type_list_append mt_append mu_app (fun _ _ _ _ _ => tyL) (sa_cons (sx_ownK K__law_point (hr.mono (by decide)) (by rfl) (sak_io 0 (sak_cp (sx_var 2) sak_nil))) sa_nil))) (sss_kill 4 false sss_nil)))) (sss_cons (κ1 := [true, false, false, true, false, false]) (ss_if (PW.pt (sw_and (st_cmp op_gt o2_gt (sx_callB call_len fn_len (by rfl) T_.n_len PySem.boot_len (sa_cons (sx_own 3) sa_nil)) sx_int) (sw_and1 (st_cmp (op_eqD hr.units) o2_eq (sx_ownK K__law_draw (hr.mono (by decide)) (by rfl) (sak_io 0 (sak_cp sx_int sak_nil))) sx_int)))) (sss_cons (ss_setLc 3 true (own' := [("point", 5)])  rfl sc__law_points.nd (si_own (sx_own 3)) (blkOk_by (N := N__law_points) (sc := defScope S__law_points) (by decide +kernel)) (fun _ _ _ _ _ => (sg_name 5 sc__law_points.nd)) (fun _ _ _ _ _ => sts_nil) (fun _ _ _ _ _ => (sx_tup (sa_cons (sx_ix ix_seq o2_ix (sx_var 5) sx_int) (sa_cons (sx_ix ix_seq o2_ix (sx_var 5) sx_int) sa_nil)))) (sw_true rfl rfl rfl (by decide +kernel))) sss_nil) sss_nil) (sss_freeze 3 (sss_one (ss_ret (sx_var 3))))))))
    (fun h => nomatch h)
theorem ok__law_turn (T_ : Facts K mg) (K__law_times : Known P w K mg "_law_times" 3 ["one", "other"] [false, false] false sem__law_times) (K__law_minus : Known P w K mg "_law_minus" 4 ["one", "other"] [false, false] false sem__law_minus) : Known P w K mg "_law_turn" 5 ["one", "other", "third"] [false, false, false] false sem__law_turn :=
  known_def (k := 4) (Ns := N__law_turn) (pl := []) (κ' := [false, false, false, false]) T_.h__law_turn (fun _ _ _ _ _ _ us hl => match us, hl with | [_, _, _], _ => rfl) sc__law_turn rfl rfl (fun fa base cdv A outer s H E hr =>
    (sss_cons (ss_asg 3 (sx_ownK K__law_times (hr.mono (by decide)) (by rfl) (sak_cp (sx_ownK K__law_minus (hr.mono (by decide)) (by rfl) (sak_cp (sx_ix ix_seq o2_ix (sx_var 1) sx_int) (sak_cp (sx_ix ix_seq o2_ix (sx_var 0) sx_int) sak_nil))) (sak_cp (sx_ownK K__law_minus (hr.mono (by decide)) (by rfl) (sak_cp (sx_ix ix_seq o2_ix (sx_var 2) sx_int) (sak_cp (sx_ix ix_seq o2_ix (sx_var 0) sx_int) sak_nil))) sak_nil))) sc__law_turn.nd) (sss_one (ss_ret (sx_ix ix_seq o2_ix (sx_ownK K__law_minus (hr.mono (by decide)) (by rfl) (sak_cp (sx_var 3) (sak_cp (sx_ownK K__law_times (hr.mono (by decide)) (by rfl) (sak_cp (sx_ownK K__law_minus (hr.mono (by decide)) (by rfl) (sak_cp (sx_ix ix_seq o2_ix (sx_var 1) sx_int) (sak_cp (sx_ix ix_seq o2_ix (sx_var 0) sx_int) sak_nil))) (sak_cp (sx_ownK K__law_minus (hr.mono (by decide)) (by rfl) (sak_cp (sx_ix ix_seq o2_ix (sx_var 2) sx_int) (sak_cp (sx_ix ix_seq o2_ix (sx_var 0) sx_int) sak_nil))) sak_nil))) sak_nil))) sx_int)))))
    (fun h => nomatch h)
theorem ok__law_on (T_ : Facts K mg) (K__law_turn : Known P w K mg "_law_turn" 5 ["one", "other", "third"] [false, false, false] false sem__law_turn) (K__law_under : Known P w K mg "_law_under" 1 ["one", "other"] [false, false] false sem__law_under) : Known P w K mg "_law_on" 6 ["one", "other", "point"] [false, false, false] false sem__law_on :=
  known_def (k := 5) (Ns := N__law_on) (pl := []) (κ' := [false, false, false, false]) T_.h__law_on (fun _ _ _ _ _ _ us hl => match us, hl with | [_, _, _], _ => rfl) sc__law_on rfl rfl (fun fa base cdv A outer s H E hr =>
    (sss_cons (κ1 := [false, false, false, false]) (ss_if (st_cmp (op_neD hr.units) o2_ne (sx_ownK K__law_turn (hr.mono (by decide)) (by rfl) (sak_cp (sx_var 0) (sak_cp (sx_var 1) (sak_cp (sx_var 2) sak_nil)))) sx_int) (sss_one (ss_ret sx_bl)) sss_nil) (sss_cons (ss_for PassesOwn.never rfl (si_r1 (by rfl) T_.n_range (sa_cons sx_int sa_nil)) (sg_name 3 sc__law_on.nd) (sss_cons (κ1 := [false, false, false, false]) (ss_if (PW.pt (sw_or (PW.pt (sw_and (st_tru (sx_ownK K__law_under (hr.mono (by decide)) (by rfl) (sak_cp (sx_ix ix_seq o2_ix (sx_var 2) (sx_var 3)) (sak_cp (sx_ix ix_seq o2_ix (sx_var 0) (sx_var 3)) sak_nil)))) (sw_and1 (st_tru (sx_ownK K__law_under (hr.mono (by decide)) (by rfl) (sak_cp (sx_ix ix_seq o2_ix (sx_var 2) (sx_var 3)) (sak_cp (sx_ix ix_seq o2_ix (sx_var 1) (sx_var 3)) sak_nil))))))) (sw_or1 (PW.pt (sw_and (st_tru (sx_ownK K__law_under (hr.mono (by decide)) (by rfl) (sak_cp (sx_ix ix_seq o2_ix (sx_var 0) (sx_var 3)) (sak_cp (sx_ix ix_seq o2_ix (sx_var 2) (sx_var 3)) sak_nil)))) (sw_and1 (st_tru (sx_ownK K__law_under (hr.mono (by decide)) (by rfl) (sak_cp (sx_ix ix_seq o2_ix (sx_var 1) (sx_var 3)) (sak_cp (sx_ix ix_seq o2_ix (sx_var 2) (sx_var 3)) sak_nil)))))))))) (sss_one (ss_ret sx_bl)) sss_nil) (sss_kill 3 false sss_nil))) (sss_one (ss_ret sx_bl)))))
    (fun h => nomatch h)
theorem ok__law_inside (T_ : Facts K mg) (K__law_on : Known P w K mg "_law_on" 6 ["one", "other", "point"] [false, false, false] false sem__law_on) (K__law_turn : Known P w K mg "_law_turn" 5 ["one", "other", "third"] [false, false, false] false sem__law_turn) : Known P w K mg "_law_inside" 7 ["points", "point"] [false, false] false sem__law_inside :=
  known_def (k := 6) (Ns := N__law_inside) (pl := []) (κ' := [false, false, false, false, false, false]) T_.h__law_inside (fun _ _ _ _ _ _ us hl => match us, hl with | [_, _], _ => rfl) sc__law_inside rfl rfl (fun fa base cdv A outer s H E hr =>
    (sss_cons (ss_for PassesOwn.never rfl (si_r1 (by rfl) T_.n_range (sa_cons (sx_callB call_len fn_len (by rfl) T_.n_len PySem.boot_len (sa_cons (sx_var 0) sa_nil)) sa_nil)) (sg_name 2 sc__law_inside.nd) (sss_cons (ss_for PassesOwn.never rfl (si_r2 (by rfl) T_.n_range (sa_cons (sx_var 2) (sa_cons (sx_callB call_len fn_len (by rfl) T_.n_len PySem.boot_len (sa_cons (sx_var 0) sa_nil)) sa_nil))) (sg_name 3 sc__law_inside.nd) (sss_cons (κ1 := [false, false, false, false, false, false]) (ss_if (st_tru (sx_ownK K__law_on (hr.mono (by decide)) (by rfl) (sak_cp (sx_ix ix_seq o2_ix (sx_var 0) (sx_var 2)) (sak_cp (sx_ix ix_seq o2_ix (sx_var 0) (sx_var 3)) (sak_cp (sx_var 1) sak_nil))))) (sss_one (ss_ret sx_bl)) sss_nil) (sss_cons (ss_for PassesOwn.never rfl (si_r2 (by rfl) T_.n_range (sa_cons (sx_bin op_addX o2_add (sx_var 3) sx_int) (sa_cons (sx_callB call_len fn_len (by rfl) T_.n_len PySem.boot_len (sa_cons (sx_var 0) sa_nil)) sa_nil))) (sg_name 4 sc__law_inside.nd) (sss_cons (ss_asg 5 (sx_last (sx_lst (sa_cons (sx_ownK K__law_turn (hr.mono (by decide)) (by rfl) (sak_cp (sx_ix ix_seq o2_ix (sx_var 0) (sx_var 2)) (sak_cp (sx_ix ix_seq o2_ix (sx_var 0) (sx_var 3)) (sak_cp (sx_var 1) sak_nil)))) (sa_cons (sx_ownK K__law_turn (hr.mono (by decide)) (by rfl) (sak_cp (sx_ix ix_seq o2_ix (sx_var 0) (sx_var 3)) (sak_cp (sx_ix ix_seq o2_ix (sx_var 0) (sx_var 4)) (sak_cp (sx_var 1) sak_nil)))) (sa_cons (sx_ownK K__law_turn (hr.mono (by decide)) (by rfl) (sak_cp (sx_ix ix_seq o2_ix (sx_var 0) (sx_var 4)) (sak_cp (sx_ix ix_seq o2_ix (sx_var 0) (sx_var 2)) (sak_cp (sx_var 1) sak_nil)))) sa_nil))))) sc__law_inside.nd) (sss_cons (κ1 := [false, false, false, false, false, false]) (ss_if (PW.pt (sw_and (st_cmp (op_neD hr.units) o2_ne (sx_ownK K__law_turn (hr.mono (by decide)) (by rfl) (sak_cp (sx_ix ix_seq o2_ix (sx_var 0) (sx_var 2)) (sak_cp (sx_ix ix_seq o2_ix (sx_var 0) (sx_var 3)) (sak_cp (sx_ix ix_seq o2_ix (sx_var 0) (sx_var 4)) sak_nil)))) sx_int) (sw_and1 (PW.pt (sw_or (st_cmp op_ge o2_ge (sx_callB (cr_min rfl) fn_minL (by rfl) T_.n_min (by decide +kernel) (sa_cons (sx_var 5) sa_nil)) sx_int) (sw_or1 (st_cmp op_le o2_le (sx_callB (cr_max rfl) fn_maxL (by rfl) T_.n_max (by decide +kernel) (sa_cons (sx_var 5) sa_nil)) sx_int))))))) (sss_one (ss_ret sx_bl)) sss_nil) sss_nil))) sss_nil))) (sss_kill 2 false (sss_kill 3 false (sss_kill 4 false (sss_kill 5 false sss_nil)))))) (sss_one (ss_ret sx_bl))))
    (fun h => nomatch h)
theorem ok__law_along (T_ : Facts K mg) (K__law_plus : Known P w K mg "_law_plus" 3 ["one", "other"] [false, false] false sem__law_plus) (K__law_times : Known P w K mg "_law_times" 3 ["one", "other"] [false, false] false sem__law_times) : Known P w K mg "_law_along" 4 ["point", "direction"] [false, false] false sem__law_along :=
  known_def (k := 3) (Ns := N__law_along) (pl := []) (κ' := [false, false]) T_.h__law_along (fun _ _ _ _ _ _ us hl => match us, hl with | [_, _], _ => rfl) sc__law_along rfl rfl (fun fa base cdv A outer s H E hr =>
    (sss_one (ss_ret (sx_ownK K__law_plus (hr.mono (by decide)) (by rfl) (sak_cp (sx_ownK K__law_times (hr.mono (by decide)) (by rfl) (sak_cp (sx_ix ix_seq o2_ix (sx_var 0) sx_int) (sak_cp (sx_ix ix_seq o2_ix (sx_var 1) sx_int) sak_nil))) (sak_cp (sx_ownK K__law_times (hr.mono (by decide)) (by rfl) (sak_cp (sx_ix ix_seq o2_ix (sx_var 0) sx_int) (sak_cp (sx_ix ix_seq o2_ix (sx_var 1) sx_int) sak_nil))) sak_nil))))))
    (fun h => nomatch h)
theorem ok_law (T_ : Facts K mg) (K__law_pool : Known P w K mg "_law_pool" 3 ["script"] [false] true sem__law_pool) (K__law_points : Known P w K mg "_law_points" 7 ["pool", "most", "top"] [true, false, false] false sem__law_points) (K_hull : Known P w K mg "hull" 5 ["points"] [false] false sem_hull) (K__law_pick : Known P w K mg "_law_pick" 4 ["pool", "options"] [true, false] false sem__law_pick) (K_cut : Known P w K mg "cut" 6 ["shape", "half"] [false, false] false sem_cut) (K__law_minus : Known P w K mg "_law_minus" 4 ["one", "other"] [false, false] false sem__law_minus) (K__law_plus : Known P w K mg "_law_plus" 3 ["one", "other"] [false, false] false sem__law_plus) (K__law_number : Known P w K mg "_law_number" 5 ["pool", "top"] [true, false] false sem__law_number) (K__law_along : Known P w K mg "_law_along" 4 ["point", "direction"] [false, false] false sem__law_along) (K_area : Known P w K mg "area" 3 ["shape"] [false] false sem_area) (K__law_point : Known P w K mg "_law_point" 6 ["pool", "top"] [true, false] false sem__law_point) (K__law_inside : Known P w K mg "_law_inside" 7 ["points", "point"] [false, false] false sem__law_inside) (K__law_under : Known P w K mg "_law_under" 1 ["one", "other"] [false, false] false sem__law_under) (K_has : Known P w K mg "has" 4 ["shape", "point"] [false, false] false sem_has) (K__law_over : Known P w K mg "_law_over" 3 ["one", "other"] [false, false] false sem__law_over) : Known P w K mg "law" 8 ["script"] [false] false sem_law :=
  known_def (k := 7) (Ns := N_law) (pl := []) (κ' := [false, false, false, false, false, false, false, false, false, false, false, false, false, false, false, false, false, false, false]) T_.h_law (fun _ _ _ _ _ _ us hl => match us, hl with | [_], _ => rfl) sc_law rfl rfl (fun fa base cdv A outer s H E hr =>
    (sss_cons (ss_asgO 1 (sx_ownK K__law_pool (hr.mono (by decide)) (by rfl) (sak_cp (sx_var 0) sak_nil)) sc_law.nd) (sss_cons (ss_for PassesOwn.never rfl (si_r1 (by rfl) T_.n_range (sa_cons sx_int sa_nil)) (sg_name 2 sc_law.nd) (sss_cons (ss_asg 3 (sx_ownK K__law_points (hr.mono (by decide)) (by rfl) (sak_io 1 (sak_cp sx_int (sak_cp sx_int sak_nil)))) sc_law.nd) (sss_cons (ss_asg 4 (sx_ownK K_hull (hr.mono (by decide)) (by rfl) (sak_cp (sx_var 3) sak_nil)) sc_law.nd) (sss_cons (ss_asg 5 (sx_ownK K__law_pick (hr.mono (by decide)) (by rfl) (sak_io 1 (sak_cp (sx_var 4) sak_nil))) sc_law.nd) (sss_cons (ss_asg 6 (sx_ownK K__law_pick (hr.mono (by decide)) (by rfl) (sak_io 1 (sak_cp (sx_bin op_addX o2_add (sx_var 4) (sx_last (sx_lst (sa_cons (sx_ownK K__law_point (hr.mono (by decide)) (by rfl) (sak_io 1 (sak_cp sx_int sak_nil))) sa_nil)))) sak_nil))) sc_law.nd) (sss_cons (ss_asg 7 (sx_tup (sa_cons (sx_ownK K__law_minus (hr.mono (by decide)) (by rfl) (sak_cp (sx_ix ix_seq o2_ix (sx_var 6) sx_int) (sak_cp (sx_ix ix_seq o2_ix (sx_var 5) sx_int) sak_nil))) (sa_cons (sx_ownK K__law_minus (hr.mono (by decide)) (by rfl) (sak_cp (sx_ix ix_seq o2_ix (sx_var 5) sx_int) (sak_cp (sx_ix ix_seq o2_ix (sx_var 6) sx_int) sak_nil))) (sa_cons (sx_tup (sa_cons sx_int (sa_cons sx_int sa_nil))) sa_nil)))) sc_law.nd) (sss_cons (κ1 := [false, true, false, false, false, false, false, false, false, false, false, false, false, false, false, false, false, false, false]) (ss_if (PW.pt (sw_and (st_cmp (op_eqD hr.units) o2_eq (sx_ix ix_seq o2_ix (sx_ix ix_seq o2_ix (sx_var 7) sx_int) sx_int) sx_int) (sw_and1 (st_cmp (op_eqD hr.units) o2_eq (sx_ix ix_seq o2_ix (sx_ix ix_seq o2_ix (sx_var 7) sx_int) sx_int) sx_int)))) (sss_cons (ss_asg 7 (sx_tup (sa_cons (sx_ownK K__law_number (hr.mono (by decide)) (by rfl) (sak_io 1 (sak_cp sx_int sak_nil))) (sa_cons (sx_tup (sa_cons sx_int (sa_cons sx_int sa_nil))) (sa_cons (sx_tup (sa_cons sx_int (sa_cons sx_int sa_nil))) sa_nil)))) sc_law.nd) sss_nil) sss_nil) (sss_cons (ss_asg 7 (sx_tup (sa_cons (sx_ix ix_seq o2_ix (sx_var 7) sx_int) (sa_cons (sx_ix ix_seq o2_ix (sx_var 7) sx_int) (sa_cons (sx_ownK K__law_plus (hr.mono (by decide)) (by rfl) (sak_cp (sx_ownK K__law_along (hr.mono (by decide)) (by rfl) (sak_cp (sx_var 5) (sak_cp (sx_sl sl_seq slt_seq (sx_var 7) so_none (so_some sx_int)) sak_nil))) (sak_cp (sx_ownK K__law_pick (hr.mono (by decide)) (by rfl) (sak_io 1 (sak_cp (sx_last (sx_lst (sa_cons (sx_tup (sa_cons sx_int (sa_cons sx_int sa_nil))) (sa_cons (sx_tup (sa_cons sx_int (sa_cons sx_int sa_nil))) (sa_cons (sx_ownK K__law_number (hr.mono (by decide)) (by rfl) (sak_io 1 (sak_cp sx_int sak_nil))) sa_nil))))) sak_nil))) sak_nil))) sa_nil)))) sc_law.nd) (sss_cons (ss_asg 8 (sx_tup (sa_cons (sx_tup (sa_cons (sx_un un_neg o1_neg (sx_ix ix_seq o2_ix (sx_ix ix_seq o2_ix (sx_var 7) sx_int) sx_int)) (sa_cons (sx_ix ix_seq o2_ix (sx_ix ix_seq o2_ix (sx_var 7) sx_int) sx_int) sa_nil))) (sa_cons (sx_tup (sa_cons (sx_un un_neg o1_neg (sx_ix ix_seq o2_ix (sx_ix ix_seq o2_ix (sx_var 7) sx_int) sx_int)) (sa_cons (sx_ix ix_seq o2_ix (sx_ix ix_seq o2_ix (sx_var 7) sx_int) sx_int) sa_nil))) (sa_cons (sx_tup (sa_cons (sx_un un_neg o1_neg (sx_ix ix_seq o2_ix (sx_ix ix_seq o2_ix (sx_var 7) sx_int) sx_int)) (sa_cons (sx_ix ix_seq o2_ix (sx_ix ix_seq o2_ix (sx_var 7) sx_int) sx_int) sa_nil))) sa_nil)))) sc_law.nd) (sss_cons (ss_asg 9 (sx_ownK K_cut (hr.mono (by decide)) (by rfl) (sak_cp (sx_last (sx_callTy call_list_of fn_listOf (by rfl) T_.n_list (by decide +kernel) (sa_cons (sx_var 4) sa_nil))) (sak_cp (sx_var 7) sak_nil))) sc_law.nd) (sss_cons (ss_asg 10 (sx_ownK K_cut (hr.mono (by decide)) (by rfl) (sak_cp (sx_last (sx_callTy call_list_of fn_listOf (by rfl) T_.n_list (by decide +kernel) (sa_cons (sx_var 4) sa_nil))) (sak_cp (sx_var 8) sak_nil))) sc_law.nd) (sss_cons (ss_asg 11 (sx_cmp op_gt o2_gt (sx_callB call_len fn_len (by rfl) T_.n_len PySem.boot_len (sa_cons (sx_last (sx_lc (own' := [("point", 15)])  rfl sc_law.nd (si_any (sx_var 4)) (blkOk_by (N := N_law) (sc := defScope S_law) (by decide +kernel)) (fun _ _ _ _ _ => (sg_name 15 sc_law.nd)) (fun _ _ _ _ _ => (sts_one (st_not (st_tru (sx_ownK K__law_under (hr.mono (by decide)) (by rfl) (sak_cp (sx_ix ix_seq o2_ix (sx_var 7) sx_int) (sak_cp (sx_ownK K__law_along (hr.mono (by decide)) (by rfl) (sak_cp (sx_var 15) (sak_cp (sx_sl sl_seq slt_seq (sx_var 7) so_none (so_some sx_int)) sak_nil))) sak_nil))))))) (fun _ _ _ _ _ => (sx_var 15)))) sa_nil)) sx_int) sc_law.nd) (sss_cons (κ1 := [false, true, false, false, false, false, false, false, false, false, false, false, false, false, false, false, false, false, false]) (ss_if (st_cmp (op_eqD hr.units) o2_eq (sx_cmp op_isP o2_is (sx_var 9) sx_non) (sx_var 11)) (sss_one (ss_ret sx_bl)) sss_nil) (sss_cons (ss_asg 12 (sx_tup (sa_cons sx_int (sa_cons sx_int sa_nil))) sc_law.nd) (sss_cons (ss_for PassesOwn.never rfl (si_any (sx_last (sx_lst (sa_cons (sx_var 9) (sa_cons (sx_var 10) sa_nil))))) (sg_name 13 sc_law.nd) (sss_cons (κ1 := [false, true, false, false, false, false, false, false, false, false, false, false, false, false, false, false, false, false, false]) (ss_if (st_cmp op_isNotP o2_isNot (sx_var 13) sx_non) (sss_cons (ss_asg 12 (sx_ownK K__law_plus (hr.mono (by decide)) (by rfl) (sak_cp (sx_var 12) (sak_cp (sx_ownK K_area (hr.mono (by decide)) (by rfl) (sak_cp (sx_var 13) sak_nil)) sak_nil))) sc_law.nd) (sss_cons (κ1 := [false, true, false, false, false, false, false, false, false, false, false, false, false, false, false, false, false, false, false]) (ss_if (st_cmp (op_neD hr.units) o2_ne (sx_ownK K_hull (hr.mono (by decide)) (by rfl) (sak_cp (sx_var 13) sak_nil)) (sx_var 13)) (sss_one (ss_ret sx_bl)) sss_nil) sss_nil)) sss_nil) sss_nil)) (sss_cons (κ1 := [false, true, false, false, false, false, false, false, false, false, false, false, false, false, false, false, false, false, false]) (ss_if (PW.pt (sw_or (st_cmp (op_neD hr.units) o2_ne (sx_var 12) (sx_ownK K_area (hr.mono (by decide)) (by rfl) (sak_cp (sx_var 4) sak_nil))) (sw_or1 (PW.pt (sw_and (st_cmp op_isNotP o2_isNot (sx_var 9) sx_non) (sw_and1 (st_cmp (op_neD hr.units) o2_ne (sx_ownK K_cut (hr.mono (by decide)) (by rfl) (sak_cp (sx_var 9) (sak_cp (sx_var 7) sak_nil))) (sx_var 9)))))))) (sss_one (ss_ret sx_bl)) sss_nil) (sss_cons (ss_for PassesOwn.never rfl (si_r1 (by rfl) T_.n_range (sa_cons sx_int sa_nil)) (sg_name 14 sc_law.nd) (sss_cons (ss_asg 15 (sx_if (st_cmp op_gt o2_gt (sx_var 14) sx_int) (sx_ownK K__law_point (hr.mono (by decide)) (by rfl) (sak_io 1 (sak_cp sx_int sak_nil))) (sx_ownK K__law_pick (hr.mono (by decide)) (by rfl) (sak_io 1 (sak_cp (sx_var 4) sak_nil)))) sc_law.nd) (sss_cons (κ1 := [false, true, false, false, false, false, false, false, false, false, false, false, false, false, false, false, false, false, false]) (ss_if (PW.pt (sw_and (st_cmp op_gt o2_gt (sx_var 14) sx_int) (sw_and1 (st_cmp op_isNotP o2_isNot (sx_var 9) sx_non)))) (sss_cons (ss_asg 16 (sx_ownK K__law_pick (hr.mono (by decide)) (by rfl) (sak_io 1 (sak_cp (sx_var 9) sak_nil))) sc_law.nd) (sss_cons (ss_asg 15 (sx_callTy call_tuple_of fn_tupOf (by rfl) T_.n_tuple (by decide +kernel) (sa_cons (sx_last (sx_lc (own' := [("k", 18)])  rfl sc_law.nd (si_r1 (by rfl) T_.n_range (sa_cons sx_int sa_nil)) (blkOk_by (N := N_law) (sc := defScope S_law) (by decide +kernel)) (fun _ _ _ _ _ => (sg_name 18 sc_law.nd)) (fun _ _ _ _ _ => sts_nil) (fun _ _ _ _ _ => (sx_ownK K__law_over (hr.mono (by decide)) (by rfl) (sak_cp (sx_ownK K__law_plus (hr.mono (by decide)) (by rfl) (sak_cp (sx_ix ix_seq o2_ix (sx_ix ix_seq o2_ix (sx_var 9) sx_int) (sx_var 18)) (sak_cp (sx_ix ix_seq o2_ix (sx_var 16) (sx_var 18)) sak_nil))) (sak_cp (sx_tup (sa_cons sx_int (sa_cons sx_int sa_nil))) sak_nil)))))) sa_nil)) sc_law.nd) sss_nil)) sss_nil) (sss_cons (ss_asg 17 (sx_and (sx_ownK K__law_inside (hr.mono (by decide)) (by rfl) (sak_cp (sx_var 3) (sak_cp (sx_var 15) sak_nil))) (sx_one (sx_not (sx_ownK K__law_under (hr.mono (by decide)) (by rfl) (sak_cp (sx_ix ix_seq o2_ix (sx_var 7) sx_int) (sak_cp (sx_ownK K__law_along (hr.mono (by decide)) (by rfl) (sak_cp (sx_var 15) (sak_cp (sx_sl sl_seq slt_seq (sx_var 7) so_none (so_some sx_int)) sak_nil))) sak_nil)))))) sc_law.nd) (sss_cons (κ1 := [false, true, false, false, false, false, false, false, false, false, false, false, false, false, false, false, false, false, false]) (ss_if (st_cmp (op_neD hr.units) o2_ne (sx_var 17) (sx_and (sx_cmp op_isNotP o2_isNot (sx_var 9) sx_non) (sx_one (sx_ownK K_has (hr.mono (by decide)) (by rfl) (sak_cp (sx_var 9) (sak_cp (sx_var 15) sak_nil)))))) (sss_one (ss_ret sx_bl)) sss_nil) sss_nil))))) (sss_kill 2 false (sss_kill 3 false (sss_kill 4 false (sss_kill 5 false (sss_kill 6 false (sss_kill 7 false (sss_kill 8 false (sss_kill 9 false (sss_kill 10 false (sss_kill 11 false (sss_kill 12 false (sss_kill 13 false (sss_kill 14 false (sss_kill 16 false (sss_kill 17 false sss_nil)))))))))))))))))))))))))))))))) (sss_one (ss_ret sx_bl)))))
    (fun h => nomatch h)
theorem ok_all (T_ : Facts K mg) : Known P w K mg "law" 8 ["script"] [false] false sem_law := by
  have K_frac := ok_frac (P := P) (w := w) T_
  have K_plus := ok_plus (P := P) (w := w) T_ K_frac
  have K_minus := ok_minus (P := P) (w := w) T_ K_frac
  have K_times := ok_times (P := P) (w := w) T_ K_frac
  have K_over := ok_over (P := P) (w := w) T_ K_frac
  have K_less := ok_less (P := P) (w := w) T_
  have K_sooner := ok_sooner (P := P) (w := w) T_ K_less
  have K_in_order := ok_in_order (P := P) (w := w) T_ K_sooner
  have K_turn := ok_turn (P := P) (w := w) T_ K_times K_minus
  have K_chain := ok_chain (P := P) (w := w) T_ K_less K_turn
  have K_hull := ok_hull (P := P) (w := w) T_ K_in_order K_chain
  have K_sides := ok_sides (P := P) (w := w) T_
  have K_has := ok_has (P := P) (w := w) T_ K_turn K_sooner K_less K_sides
  have K_area := ok_area (P := P) (w := w) T_ K_sides K_over K_plus K_minus K_times
  have K_along := ok_along (P := P) (w := w) T_ K_plus K_times
  have K_above := ok_above (P := P) (w := w) T_ K_minus K_along
  have K_between := ok_between (P := P) (w := w) T_ K_plus K_times K_minus
  have K_cut := ok_cut (P := P) (w := w) T_ K_sides K_hull K_above K_less K_between K_over K_minus
  have K__law_mixed := ok__law_mixed (P := P) (w := w) T_
  have K__law_rest := ok__law_rest (P := P) (w := w) T_ K__law_mixed
  have K__law_pool := ok__law_pool (P := P) (w := w) T_ K__law_rest
  have K__law_next := ok__law_next (P := P) (w := w) T_ K__law_rest
  have K__law_draw := ok__law_draw (P := P) (w := w) T_ K__law_rest
  have K__law_pick := ok__law_pick (P := P) (w := w) T_ K__law_draw
  have K__law_gcd := ok__law_gcd (P := P) (w := w) T_
  have K__law_frac := ok__law_frac (P := P) (w := w) T_ K__law_gcd
  have K__law_plus := ok__law_plus (P := P) (w := w) T_ K__law_frac
  have K__law_times := ok__law_times (P := P) (w := w) T_ K__law_frac
  have K__law_under := ok__law_under (P := P) (w := w) T_
  have K__law_minus := ok__law_minus (P := P) (w := w) T_ K__law_plus
  have K__law_over := ok__law_over (P := P) (w := w) T_ K__law_frac
  have K__law_number := ok__law_number (P := P) (w := w) T_ K__law_pick K__law_frac K__law_draw
  have K__law_point := ok__law_point (P := P) (w := w) T_ K__law_number
  have K__law_points := ok__law_points (P := P) (w := w) T_ K__law_next K__law_draw K__law_point
  have K__law_turn := ok__law_turn (P := P) (w := w) T_ K__law_times K__law_minus
  have K__law_on := ok__law_on (P := P) (w := w) T_ K__law_turn K__law_under
  have K__law_inside := ok__law_inside (P := P) (w := w) T_ K__law_on K__law_turn
  have K__law_along := ok__law_along (P := P) (w := w) T_ K__law_plus K__law_times
  have K_law := ok_law (P := P) (w := w) T_ K__law_pool K__law_points K_hull K__law_pick K_cut K__law_minus K__law_plus K__law_number K__law_along K_area K__law_point K__law_inside K__law_under K_has K__law_over
  exact K_law
end
end Law
namespace Law
open Tw
theorem e_frac : sem_frac = LawP.sem_frac := rfl
theorem e_plus : sem_plus = LawP.sem_plus := rfl
theorem e_minus : sem_minus = LawP.sem_minus := rfl
theorem e_times : sem_times = LawP.sem_times := rfl
theorem e_over : sem_over = LawP.sem_over := rfl
theorem e__law_mixed : sem__law_mixed = LawP.sem__law_mixed := rfl
theorem e__law_rest : sem__law_rest = LawP.sem__law_rest := rfl
theorem e__law_pool : sem__law_pool = LawP.sem__law_pool := rfl
theorem e__law_next : sem__law_next = LawP.sem__law_next := rfl
theorem e__law_draw : sem__law_draw = LawP.sem__law_draw := rfl
theorem e__law_pick : sem__law_pick = LawP.sem__law_pick := rfl
end Law

namespace Law
open Tw
set_option maxHeartbeats 400000 in
theorem e_less : sem_less = LawS.sem_less := by
  unfold sem_less LawS.sem_less F_less LawS.F_less
  rfl
set_option maxHeartbeats 400000 in
theorem e_sooner : sem_sooner = LawS.sem_sooner := by
  unfold sem_sooner LawS.sem_sooner F_sooner LawS.F_sooner
  simp only [e_less]
set_option maxHeartbeats 400000 in
theorem e_in_order : sem_in_order = LawS.sem_in_order := by
  unfold sem_in_order LawS.sem_in_order F_in_order LawS.F_in_order
  simp only [e_sooner]
set_option maxHeartbeats 400000 in
theorem e_turn : sem_turn = LawS.sem_turn := by
  unfold sem_turn LawS.sem_turn F_turn LawS.F_turn
  simp only [e_minus, e_times]
set_option maxHeartbeats 400000 in
theorem e_chain : sem_chain = LawS.sem_chain := by
  unfold sem_chain LawS.sem_chain F_chain LawS.F_chain
  simp only [e_less, e_turn, c_NOUGHT]
set_option maxHeartbeats 400000 in
theorem e_hull : sem_hull = LawS.sem_hull := by
  unfold sem_hull LawS.sem_hull F_hull LawS.F_hull
  simp only [e_chain, e_in_order]
set_option maxHeartbeats 400000 in
theorem e_sides : sem_sides = LawS.sem_sides := by
  unfold sem_sides LawS.sem_sides F_sides LawS.F_sides
  rfl
set_option maxHeartbeats 400000 in
theorem e_has : sem_has = LawS.sem_has := by
  unfold sem_has LawS.sem_has F_has LawS.F_has
  simp only [e_less, e_sides, e_sooner, e_turn, c_NOUGHT]
set_option maxHeartbeats 400000 in
theorem e_area : sem_area = LawS.sem_area := by
  unfold sem_area LawS.sem_area F_area LawS.F_area
  simp only [e_minus, e_over, e_plus, e_sides, e_times, c_NOUGHT]
set_option maxHeartbeats 400000 in
theorem e_along : sem_along = LawS.sem_along := by
  unfold sem_along LawS.sem_along F_along LawS.F_along
  simp only [e_plus, e_times]
set_option maxHeartbeats 400000 in
theorem e__law_gcd : sem__law_gcd = LawS.sem__law_gcd := by
  unfold sem__law_gcd LawS.sem__law_gcd F__law_gcd LawS.F__law_gcd
  rfl
set_option maxHeartbeats 400000 in
theorem e__law_frac : sem__law_frac = LawS.sem__law_frac := by
  unfold sem__law_frac LawS.sem__law_frac F__law_frac LawS.F__law_frac
  simp only [e__law_gcd]
set_option maxHeartbeats 400000 in
theorem e__law_plus : sem__law_plus = LawS.sem__law_plus := by
  unfold sem__law_plus LawS.sem__law_plus F__law_plus LawS.F__law_plus
  simp only [e__law_frac]
set_option maxHeartbeats 400000 in
theorem e__law_times : sem__law_times = LawS.sem__law_times := by
  unfold sem__law_times LawS.sem__law_times F__law_times LawS.F__law_times
  simp only [e__law_frac]
set_option maxHeartbeats 400000 in
theorem e__law_under : sem__law_under = LawS.sem__law_under := by
  unfold sem__law_under LawS.sem__law_under F__law_under LawS.F__law_under
  rfl
set_option maxHeartbeats 400000 in
theorem e__law_minus : sem__law_minus = LawS.sem__law_minus := by
  unfold sem__law_minus LawS.sem__law_minus F__law_minus LawS.F__law_minus
  simp only [e__law_plus]
set_option maxHeartbeats 400000 in
theorem e__law_over : sem__law_over = LawS.sem__law_over := by
  unfold sem__law_over LawS.sem__law_over F__law_over LawS.F__law_over
  simp only [e__law_frac]
set_option maxHeartbeats 400000 in
theorem e__law_number : sem__law_number = LawS.sem__law_number := by
  unfold sem__law_number LawS.sem__law_number F__law_number LawS.F__law_number
  simp only [e__law_draw, e__law_frac, e__law_pick]
set_option maxHeartbeats 400000 in
theorem e__law_point : sem__law_point = LawS.sem__law_point := by
  unfold sem__law_point LawS.sem__law_point F__law_point LawS.F__law_point
  simp only [e__law_number]
set_option maxHeartbeats 400000 in
theorem e__law_points : sem__law_points = LawS.sem__law_points := by
  unfold sem__law_points LawS.sem__law_points F__law_points LawS.F__law_points
  simp only [e__law_draw, e__law_next, e__law_point]
set_option maxHeartbeats 400000 in
theorem e__law_turn : sem__law_turn = LawS.sem__law_turn := by
  unfold sem__law_turn LawS.sem__law_turn F__law_turn LawS.F__law_turn
  simp only [e__law_minus, e__law_times]
set_option maxHeartbeats 400000 in
theorem e__law_on : sem__law_on = LawS.sem__law_on := by
  unfold sem__law_on LawS.sem__law_on F__law_on LawS.F__law_on
  simp only [e__law_turn, e__law_under]
set_option maxHeartbeats 400000 in
theorem e__law_inside : sem__law_inside = LawS.sem__law_inside := by
  unfold sem__law_inside LawS.sem__law_inside F__law_inside LawS.F__law_inside
  simp only [e__law_on, e__law_turn]
set_option maxHeartbeats 400000 in
theorem e__law_along : sem__law_along = LawS.sem__law_along := by
  unfold sem__law_along LawS.sem__law_along F__law_along LawS.F__law_along
  simp only [e__law_plus, e__law_times]
set_option maxHeartbeats 400000 in
theorem e_above : sem_above = LawS.sem_above := by
  unfold sem_above LawS.sem_above F_above LawS.F_above
  simp only [e_along, e_minus]
set_option maxHeartbeats 400000 in
theorem e_between : sem_between = LawS.sem_between := by
  unfold sem_between LawS.sem_between F_between LawS.F_between
  simp only [e_minus, e_plus, e_times]
set_option maxHeartbeats 400000 in
theorem e_cut : sem_cut = LawS.sem_cut := by
  unfold sem_cut LawS.sem_cut F_cut LawS.F_cut
  simp only [e_above, e_between, e_hull, e_less, e_minus, e_over, e_sides, c_NOUGHT]
end Law

namespace LawS
open Tw L2 LawP Hl
def Mi (M : Nat) (x : Rat) : Prop := ∃ i : Int, (M : Rat) * x = i
def Mp (M : Nat) (p : P) : Prop := Mi M p.1 ∧ Mi M p.2
theorem Mi.mul {M : Nat} {x : Rat} (h : Mi M x) (k : Nat) : Mi (k * M) x := by
  obtain ⟨i, e⟩ := h
  refine ⟨k * i, ?_⟩
  rw [Rat.intCast_mul, ← e]
  have : ((k * M : Nat) : Rat) = (k : Rat) * (M : Rat) := by exact_mod_cast rfl
  rw [this]
  have : (((k : Nat) : Int) : Rat) = (k : Rat) := by exact_mod_cast rfl
  rw [this]
  grind
theorem Mp.mul {M : Nat} {x : P} (h : Mp M x) (k : Nat) : Mp (k * M) x := ⟨h.1.mul k, h.2.mul k⟩
theorem Nm.mi {B : Nat} {x : Rat} (h : Nm B x) : Mi 6 x := by
  obtain ⟨i, _, rfl⟩ := h
  refine ⟨i, ?_⟩
  have : ((6 : Nat) : Rat) = ((6 : Int) : Rat) := by exact_mod_cast rfl
  rw [this]
  grind
theorem mix_mi {x1 y1 f f2 : Rat} {A B C D : Nat} (hx : Nm A x1) (hy : Nm B y1) (hf : N36 C f) (hf2 : N36 D f2) (h0 : f2 ≠ 0) : ∃ d : Nat, 0 < d ∧ d ≤ 6 * D ∧ ∀ (x1 y1 : Rat), Nm A x1 → Nm B y1 → Mi d (x1 + f / f2 * y1) := by
  obtain ⟨i, bi, rfl⟩ := hf
  obtain ⟨j, bj, rfl⟩ := hf2
  have hj : j ≠ 0 := fun e => h0 (by rw [e]; grind)
  refine ⟨(6 * j).natAbs, by omega, by omega, ?_⟩
  rintro _ _ ⟨a, ba, rfl⟩ ⟨k, bk, rfl⟩
  rw [mix a k i j hj]
  have hq : ((6 * j : Int) : Rat) ≠ 0 := by
    intro h
    have : (6 * j : Int) = 0 := by exact_mod_cast h
    omega
  by_cases s : 0 ≤ 6 * j
  · refine ⟨a * j + i * k, ?_⟩
    have : (((6 * j).natAbs : Nat) : Rat) = ((6 * j : Int) : Rat) := by
      have : (((6 * j).natAbs : Nat) : Int) = 6 * j := by omega
      exact_mod_cast this
    rw [this]
    grind
  · refine ⟨-(a * j + i * k), ?_⟩
    have : (((6 * j).natAbs : Nat) : Rat) = -((6 * j : Int) : Rat) := by
      have : (((6 * j).natAbs : Nat) : Int) = -(6 * j) := by omega
      exact_mod_cast this
    rw [this, Rat.intCast_neg]
    grind
section
variable {S h : List P} {u : P × Rat} {e : P × P}
theorem xp_np (h1 : Np 30 e.1) (h2 : Np 30 e.2) (hu : Np 60 u.1) (hc : N36 3708 u.2) (c : Chg u e) : Zp 20 (xp u e) ∧ ∃ d : Nat, 0 < d ∧ d ≤ 87696 ∧ Mp d (xp u e) := by
  have f1 : N36 7308 (ab u e.1) := (al_36 h1 hu).sub hc
  have f2 : N36 7308 (ab u e.2) := (al_36 h2 hu).sub hc
  have fd : N36 14616 (ab u e.1 - ab u e.2) := f1.sub f2
  have d0 : ab u e.1 - ab u e.2 ≠ 0 := by unfold Chg at c; grind
  have y1 : Nm 60 (e.2.1 - e.1.1) := h2.1.sub h1.1
  have y2 : Nm 60 (e.2.2 - e.1.2) := h2.2.sub h1.2
  refine ⟨⟨mix_sz h1.1 y1 f1 fd d0 (by decide) (by decide), mix_sz h1.2 y2 f1 fd d0 (by decide) (by decide)⟩, ?_⟩
  obtain ⟨d, d1, d2, k⟩ := mix_mi h1.1 y1 f1 fd d0
  exact ⟨d, d1, d2, k _ _ h1.1 y1, k _ _ h1.2 y2⟩
theorem T_pt (hz : ∀ p ∈ h, Np 30 p) (hu : Np 60 u.1) (hc : N36 3708 u.2) {x : P} (hx : x ∈ cutP h u) : Zp 20 x ∧ ∃ d : Nat, 0 < d ∧ d ≤ 87696 ∧ Mp d x ∧ (ab u x ≠ 0 → d = 6) := by
  rcases mem_cut.mp hx with ⟨h1, h2⟩ | ⟨e, he, c, rfl⟩
  · exact ⟨((hz x h1).zp (by decide) (by decide) : Zp 5 x).mono (by decide), 6, by decide, by decide, ⟨(hz x h1).1.mi, (hz x h1).2.mi⟩, fun _ => rfl⟩
  · obtain ⟨z, d, d1, d2, k⟩ := xp_np (hz _ (mem_sd he).1) (hz _ (mem_sd he).2) hu hc c
    exact ⟨z, d, d1, d2, k, fun n => absurd (xp_z c) n⟩
theorem T_mult (hz : ∀ p ∈ h, Np 30 p) (hu0 : u.1 ≠ (0, 0)) (hu : Np 60 u.1) (hc : N36 3708 u.2) (hn : cutP h u ≠ []) : ∃ M : Nat, 0 < M ∧ M < 2 ^ 37 ∧ ∀ x ∈ HU (cutP h u), Mp M x := by
  have HT := HU_ok hn
  have pt : ∀ x ∈ HU (cutP h u), ∃ d : Nat, 0 < d ∧ d ≤ 87696 ∧ Mp d x ∧ (ab u x ≠ 0 → d = 6) := fun x hx => (T_pt hz hu hc (HT.sub x hx)).2
  have two : ∃ da db : Nat, 0 < da ∧ da ≤ 87696 ∧ 0 < db ∧ db ≤ 87696 ∧ ∀ x ∈ HU (cutP h u), ab u x = 0 → Mp da x ∨ Mp db x := by
    have nd : ((HU (cutP h u)).filter fun x => decide (ab u x = 0)).Nodup := HT.nd.filter _
    have mem : ∀ x, x ∈ (HU (cutP h u)).filter (fun x => decide (ab u x = 0)) ↔ x ∈ HU (cutP h u) ∧ ab u x = 0 := fun x => by rw [List.mem_filter]; simp
    generalize (HU (cutP h u)).filter (fun x => decide (ab u x = 0)) = L at *
    match L, nd, mem with
    | [], _, mem => exact ⟨1, 1, by decide, by decide, by decide, by decide, fun x hx h0 => absurd ((mem x).mpr ⟨hx, h0⟩) (by simp)⟩
    | [a], _, mem =>
      obtain ⟨d, d1, d2, d3, _⟩ := pt a ((mem a).mp (by simp)).1
      refine ⟨d, 1, d1, d2, by decide, by decide, fun x hx h0 => .inl ?_⟩
      have := (mem x).mpr ⟨hx, h0⟩
      rw [List.mem_singleton.mp this]
      exact d3
    | [a, b], _, mem =>
      obtain ⟨d, d1, d2, d3, _⟩ := pt a ((mem a).mp (by simp)).1
      obtain ⟨d', d1', d2', d3', _⟩ := pt b ((mem b).mp (by simp)).1
      refine ⟨d, d', d1, d2, d1', d2', fun x hx h0 => ?_⟩
      have := (mem x).mpr ⟨hx, h0⟩
      simp only [List.mem_cons, List.not_mem_nil, or_false] at this
      rcases this with rfl | rfl
      · exact .inl d3
      · exact .inr d3'
    | a :: b :: c :: _, nd, mem =>
      exfalso
      have ha := (mem a).mp (by simp)
      have hb := (mem b).mp (by simp)
      have hc := (mem c).mp (by simp)
      simp only [List.nodup_cons, List.mem_cons, not_or] at nd
      exact HT.ncol ha.1 hb.1 hc.1 nd.1.1 nd.2.1.1 nd.1.2.1 (on_col hu0 ha.2 hb.2 hc.2)
  obtain ⟨da, db, a1, a2, b1, b2, k⟩ := two
  have ab1 : 0 < da * db := Nat.mul_pos a1 b1
  have ab2 : da * db ≤ 87696 * 87696 := Nat.mul_le_mul a2 b2
  refine ⟨6 * (da * db), by omega, Nat.lt_of_le_of_lt (Nat.mul_le_mul_left 6 ab2) (by decide), fun x hx => ?_⟩
  by_cases h0 : ab u x = 0
  · rcases k x hx h0 with k | k
    · rw [show 6 * (da * db) = (6 * db) * da by rw [Nat.mul_assoc, Nat.mul_comm db da]]
      exact k.mul _
    · rw [show 6 * (da * db) = (6 * da) * db by rw [Nat.mul_assoc]]
      exact k.mul _
  · obtain ⟨d, _, _, d3, d4⟩ := pt x hx
    rw [d4 h0] at d3
    rw [Nat.mul_comm 6]
    exact d3.mul _
theorem mi_ar {M : Nat} {a b : P} (ha : Mp M a) (hb : Mp M b) : Mi (M * M) (ar (a, b)) := by
  obtain ⟨⟨i, e1⟩, j, e2⟩ := ha
  obtain ⟨⟨k, e3⟩, l, e4⟩ := hb
  refine ⟨i * l - j * k, ?_⟩
  rw [Rat.intCast_sub, Rat.intCast_mul, Rat.intCast_mul, ← e1, ← e2, ← e3, ← e4]
  have : ((M * M : Nat) : Rat) = (M : Rat) * (M : Rat) := by exact_mod_cast rfl
  rw [this]
  unfold ar
  grind
theorem b_mul {x y : Rat} (h1 : -5 ≤ x) (h2 : x ≤ 5) (h3 : -5 ≤ y) (h4 : y ≤ 5) : -25 ≤ x * y ∧ x * y ≤ 25 := by
  have a1 := Rat.mul_nonneg (show 0 ≤ 5 - x by grind) (show 0 ≤ 5 - y by grind)
  have a2 := Rat.mul_nonneg (show 0 ≤ 5 + x by grind) (show 0 ≤ 5 + y by grind)
  have a3 := Rat.mul_nonneg (show 0 ≤ 5 - x by grind) (show 0 ≤ 5 + y by grind)
  have a4 := Rat.mul_nonneg (show 0 ≤ 5 + x by grind) (show 0 ≤ 5 - y by grind)
  constructor <;> grind
def In5 (p : P) : Prop := (-5 ≤ p.1 ∧ p.1 ≤ 5) ∧ -5 ≤ p.2 ∧ p.2 ≤ 5
theorem Nm.in5 {x : Rat} (h : Nm 30 x) : -5 ≤ x ∧ x ≤ 5 := by
  obtain ⟨i, hi, rfl⟩ := h
  have h1 : (-30 : Int) ≤ i := by omega
  have h2 : i ≤ 30 := by omega
  have h1 : ((-30 : Int) : Rat) ≤ (i : Rat) := by exact_mod_cast h1
  have h2 : (i : Rat) ≤ ((30 : Int) : Rat) := by exact_mod_cast h2
  constructor <;> grind
theorem in5_cv (hz : ∀ p ∈ h, Np 30 p) {x : P} (hx : Cv h x) : In5 x := by
  have b : ∀ p ∈ h, In5 p := fun p hp => ⟨(hz p hp).1.in5, (hz p hp).2.in5⟩
  unfold In5 at b
  have k1 := cv_al (d := (1, 0)) (m := 5) hx fun p hp => by have := b p hp; unfold al; grind
  have k2 := cv_al (d := (-1, 0)) (m := 5) hx fun p hp => by have := b p hp; unfold al; grind
  have k3 := cv_al (d := (0, 1)) (m := 5) hx fun p hp => by have := b p hp; unfold al; grind
  have k4 := cv_al (d := (0, -1)) (m := 5) hx fun p hp => by have := b p hp; unfold al; grind
  unfold al at *
  unfold In5
  grind
theorem A2_mi {M : Nat} : ∀ {l : List (P × P)}, (∀ e ∈ l, Mp M e.1 ∧ Mp M e.2 ∧ In5 e.1 ∧ In5 e.2) → Mi (M * M) (rs (l.map ar)) ∧ -(50 * (l.length : Rat)) ≤ rs (l.map ar) ∧ rs (l.map ar) ≤ 50 * (l.length : Rat)
  | [], _ => by
    refine ⟨⟨0, ?_⟩, ?_, ?_⟩
    · show _ * (0 : Rat) = _
      grind
    · show _ ≤ (0 : Rat); simp
    · show (0 : Rat) ≤ _; simp
  | e :: l, hz => by
    obtain ⟨⟨i, ei⟩, b1, b2⟩ := A2_mi (l := l) fun e he => hz e (List.mem_cons_of_mem _ he)
    obtain ⟨m1, m2, i1, i2⟩ := hz e (by simp)
    obtain ⟨j, ej⟩ := mi_ar m1 m2
    have r1 := b_mul i1.1.1 i1.1.2 i2.2.1 i2.2.2
    have r2 := b_mul i1.2.1 i1.2.2 i2.1.1 i2.1.2
    have ea : ar e = e.1.1 * e.2.2 - e.1.2 * e.2.1 := by unfold ar; grind
    have el : ((e :: l).length : Rat) = (l.length : Rat) + 1 := by rw [List.length_cons]; exact_mod_cast rfl
    show Mi _ (ar e + rs (l.map ar)) ∧ _ ≤ ar e + rs (l.map ar) ∧ ar e + rs (l.map ar) ≤ _
    refine ⟨⟨j + i, ?_⟩, ?_, ?_⟩
    · rw [Rat.intCast_add, ← ei, ← ej]
      show _ * (ar (e.1, e.2) + _) = _
      grind
    · rw [el]; grind
    · rw [el]; grind
/-- the area of what is left is not large -/
theorem T_area (hl : h.length ≤ 8) (hz : ∀ p ∈ h, Np 30 p) (hu0 : u.1 ≠ (0, 0)) (hu : Np 60 u.1) (hc : N36 3708 u.2) (hn : cutP h u ≠ []) : Sz 90 (A2 (sd (HU (cutP h u))) / 2) := by
  have HT := HU_ok hn
  obtain ⟨M, m0, m1, mp⟩ := T_mult hz hu0 hu hc hn
  have lT : (HU (cutP h u)).length ≤ 16 := by
    have := nd_len HT.nd HT.sub
    have : (cutP h u).length ≤ 16 := by
      unfold cutP
      rw [List.length_append]
      have a := List.length_filter_le (fun p => !decide (0 < ab u p)) h
      have b := List.length_filterMap_le (fun e => if Chg u e then some (xp u e) else none) (sd h)
      rw [sd_len] at b
      omega
    omega
  have in5 : ∀ x ∈ HU (cutP h u), In5 x := fun x hx => in5_cv hz (cut_sub (HT.sub x hx)).1
  obtain ⟨⟨K, eK⟩, b1, b2⟩ := A2_mi (M := M) (l := sd (HU (cutP h u))) fun e he => ⟨mp _ (mem_sd he).1, mp _ (mem_sd he).2, in5 _ (mem_sd he).1, in5 _ (mem_sd he).2⟩
  rw [← A2_rs, sd_len] at b1 b2
  rw [← A2_rs] at eK
  generalize A2 (sd (HU (cutP h u))) = A at *
  have l16 : ((HU (cutP h u)).length : Rat) ≤ 16 := by exact_mod_cast lT
  have c1 : -800 ≤ A := by grind
  have c2 : A ≤ 800 := by grind
  have mm : ((M * M : Nat) : Rat) = (M : Rat) * (M : Rat) := by exact_mod_cast rfl
  have p0 : (0 : Rat) < ((M * M : Nat) : Rat) := by exact_mod_cast Nat.mul_pos m0 m0
  have k1 : -(800 * ((M * M : Nat) : Rat)) ≤ (K : Rat) := by
    rw [← eK]
    have := Rat.mul_nonneg (Rat.le_of_lt p0) (show 0 ≤ A + 800 by grind)
    grind
  have k2 : (K : Rat) ≤ 800 * ((M * M : Nat) : Rat) := by
    rw [← eK]
    have := Rat.mul_nonneg (Rat.le_of_lt p0) (show 0 ≤ 800 - A by grind)
    grind
  have hM : M * M < 2 ^ 74 := Nat.lt_of_lt_of_le (Nat.mul_lt_mul'' m1 m1) (by decide)
  have hM0 : 0 < M * M := Nat.mul_pos m0 m0
  generalize M * M = N at *
  have k1 : -(800 * (N : Int)) ≤ K := by
    have e : ((-(800 * (N : Int)) : Int) : Rat) = -(800 * (N : Rat)) := by rw [Rat.intCast_neg, Rat.intCast_mul]; exact_mod_cast rfl
    rw [← e] at k1
    exact Rat.intCast_le_intCast.mp k1
  have k2 : K ≤ 800 * (N : Int) := by
    have e : ((800 * (N : Int) : Int) : Rat) = 800 * (N : Rat) := by rw [Rat.intCast_mul]; exact_mod_cast rfl
    rw [← e] at k2
    exact Rat.intCast_le_intCast.mp k2
  have e : A / 2 = (K : Rat) / ((2 * (N : Int) : Int) : Rat) := by
    have hN : (N : Rat) ≠ 0 := by grind
    have : ((2 * (N : Int) : Int) : Rat) = 2 * (N : Rat) := by exact_mod_cast rfl
    rw [this, ← eK]
    grind
  rw [e]
  have t74 : (2 : Nat) ^ 74 = 18889465931478580854784 := rfl
  have t90 : (2 : Nat) ^ 90 = 1237940039285380274899124224 := rfl
  refine Sz.div ?_ ?_ ?_ <;> omega
end
end LawS

namespace Law
open Tw L2 LawP LawS Hl
section
variable {ns : List Int}
noncomputable def R6_law : Fs :=
  (sSeq (sAsg 17 (eAnd (eOwn sem__law_inside [] (aCons (eVar 3) (aCons (eVar 15) aNil))) (eNot (eOwn sem__law_under [] (aCons (eBin gIx (eVar 7) (eLit (.int 2))) (aCons (eOwn sem__law_along [] (aCons (eVar 15) (aCons (eSl gSl (eVar 7) oNone (oSome (eLit (.int 2)))) aNil))) aNil)))))) (sSeq (sIf (tOf (eBin gNe (eVar 17) (eAnd (eBin gIsNot (eVar 9) (eLit .non)) (eOwn sem_has [] (aCons (eVar 9) (aCons (eVar 15) aNil)))))) (sRet (eLit (.bl false))) sNx) sNx))
noncomputable def R5_law : Fs :=
  (sSeq (sFor (iR1 (aCons (eLit (.int 6)) aNil)) (tgN 14) (sSeq (sAsg 15 (eIf (tOf (eBin gGt (eVar 14) (eLit (.int 1)))) (eOwn sem__law_point [1] (aIo 1 (aCons (eLit (.int 5)) aNil))) (eOwn sem__law_pick [1] (aIo 1 (aCons (eVar 4) aNil))))) (sSeq (sIf (tAndT (tOf (eBin gGt (eVar 14) (eLit (.int 3)))) (tOf (eBin gIsNot (eVar 9) (eLit .non)))) (sSeq (sAsg 16 (eOwn sem__law_pick [1] (aIo 1 (aCons (eVar 9) aNil)))) (sSeq (sAsg 15 (eCall gTupOf (aCons (eComp [18] (iR1 (aCons (eLit (.int 2)) aNil)) (tgN 18) tYesT (eOwn sem__law_over [] (aCons (eOwn sem__law_plus [] (aCons (eBin gIx (eBin gIx (eVar 9) (eLit (.int 0))) (eVar 18)) (aCons (eBin gIx (eVar 16) (eVar 18)) aNil))) (aCons (eTup (aCons (eLit (.int 2)) (aCons (eLit (.int 1)) aNil))) aNil)))) aNil))) sNx)) sNx) R6_law))) (sKill 2 (sKill 3 (sKill 4 (sKill 5 (sKill 6 (sKill 7 (sKill 8 (sKill 9 (sKill 10 (sKill 11 (sKill 12 (sKill 13 (sKill 14 (sKill 16 (sKill 17 sNx))))))))))))))))
noncomputable def R4_law : Fs :=
  (sSeq (sIf (tOrT (tOf (eBin gNe (eVar 12) (eOwn sem_area [] (aCons (eVar 4) aNil)))) (tAndT (tOf (eBin gIsNot (eVar 9) (eLit .non))) (tOf (eBin gNe (eOwn sem_cut [] (aCons (eVar 9) (aCons (eVar 7) aNil))) (eVar 9))))) (sRet (eLit (.bl false))) sNx) R5_law)
noncomputable def R3_law : Fs :=
  (sSeq (sAsg 12 (eTup (aCons (eLit (.int 0)) (aCons (eLit (.int 1)) aNil)))) (sSeq (sFor (iAny (eLst (aCons (eVar 9) (aCons (eVar 10) aNil)))) (tgN 13) (sSeq (sIf (tOf (eBin gIsNot (eVar 13) (eLit .non))) (sSeq (sAsg 12 (eOwn sem__law_plus [] (aCons (eVar 12) (aCons (eOwn sem_area [] (aCons (eVar 13) aNil)) aNil)))) (sSeq (sIf (tOf (eBin gNe (eOwn sem_hull [] (aCons (eVar 13) aNil)) (eVar 13))) (sRet (eLit (.bl false))) sNx) sNx)) sNx) sNx)) R4_law))
noncomputable def R2_law : Fs :=
  (sSeq (sAsg 8 (eTup (aCons (eTup (aCons (eUn gNeg (eBin gIx (eBin gIx (eVar 7) (eLit (.int 0))) (eLit (.int 0)))) (aCons (eBin gIx (eBin gIx (eVar 7) (eLit (.int 0))) (eLit (.int 1))) aNil))) (aCons (eTup (aCons (eUn gNeg (eBin gIx (eBin gIx (eVar 7) (eLit (.int 1))) (eLit (.int 0)))) (aCons (eBin gIx (eBin gIx (eVar 7) (eLit (.int 1))) (eLit (.int 1))) aNil))) (aCons (eTup (aCons (eUn gNeg (eBin gIx (eBin gIx (eVar 7) (eLit (.int 2))) (eLit (.int 0)))) (aCons (eBin gIx (eBin gIx (eVar 7) (eLit (.int 2))) (eLit (.int 1))) aNil))) aNil))))) (sSeq (sAsg 9 (eOwn sem_cut [] (aCons (eCall gListOf (aCons (eVar 4) aNil)) (aCons (eVar 7) aNil)))) (sSeq (sAsg 10 (eOwn sem_cut [] (aCons (eCall gListOf (aCons (eVar 4) aNil)) (aCons (eVar 8) aNil)))) (sSeq (sAsg 11 (eBin gGt (eCall gLen (aCons (eComp [15] (iAny (eVar 4)) (tgN 15) (tNotT (tTru (eOwn sem__law_under [] (aCons (eBin gIx (eVar 7) (eLit (.int 2))) (aCons (eOwn sem__law_along [] (aCons (eVar 15) (aCons (eSl gSl (eVar 7) oNone (oSome (eLit (.int 2)))) aNil))) aNil))))) (eVar 15)) aNil)) (eLit (.int 0)))) (sSeq (sIf (tOf (eBin gEq (eBin gIs (eVar 9) (eLit .non)) (eVar 11))) (sRet (eLit (.bl false))) sNx) R3_law)))))
noncomputable def H_law : Fs :=
  (sSeq (sAsg 7 (eTup (aCons (eBin gIx (eVar 7) (eLit (.int 0))) (aCons (eBin gIx (eVar 7) (eLit (.int 1))) (aCons (eOwn sem__law_plus [] (aCons (eOwn sem__law_along [] (aCons (eVar 5) (aCons (eSl gSl (eVar 7) oNone (oSome (eLit (.int 2)))) aNil))) (aCons (eOwn sem__law_pick [1] (aIo 1 (aCons (eLst (aCons (eTup (aCons (eLit (.int 0)) (aCons (eLit (.int 1)) aNil))) (aCons (eTup (aCons (eLit (.int 0)) (aCons (eLit (.int 1)) aNil))) (aCons (eOwn sem__law_number [1] (aIo 1 (aCons (eLit (.int 3)) aNil))) aNil)))) aNil))) aNil))) aNil))))) R2_law)
noncomputable def R1_law : Fs :=
  (sSeq (sIf (tAndT (tOf (eBin gEq (eBin gIx (eBin gIx (eVar 7) (eLit (.int 0))) (eLit (.int 0))) (eLit (.int 0)))) (tOf (eBin gEq (eBin gIx (eBin gIx (eVar 7) (eLit (.int 1))) (eLit (.int 0))) (eLit (.int 0))))) (sSeq (sAsg 7 (eTup (aCons (eOwn sem__law_number [1] (aIo 1 (aCons (eLit (.int 3)) aNil))) (aCons (eTup (aCons (eLit (.int 1)) (aCons (eLit (.int 1)) aNil))) (aCons (eTup (aCons (eLit (.int 0)) (aCons (eLit (.int 1)) aNil))) aNil))))) sNx) sNx) H_law)
noncomputable def B_law : Fs :=
  (sSeq (sAsg 3 (eOwn sem__law_points [1] (aIo 1 (aCons (eLit (.int 8)) (aCons (eLit (.int 5)) aNil))))) (sSeq (sAsg 4 (eOwn sem_hull [] (aCons (eVar 3) aNil))) (sSeq (sAsg 5 (eOwn sem__law_pick [1] (aIo 1 (aCons (eVar 4) aNil)))) (sSeq (sAsg 6 (eOwn sem__law_pick [1] (aIo 1 (aCons (eBin gAdd (eVar 4) (eLst (aCons (eOwn sem__law_point [1] (aIo 1 (aCons (eLit (.int 5)) aNil))) aNil))) aNil)))) (sSeq (sAsg 7 (eTup (aCons (eOwn sem__law_minus [] (aCons (eBin gIx (eVar 6) (eLit (.int 1))) (aCons (eBin gIx (eVar 5) (eLit (.int 1))) aNil))) (aCons (eOwn sem__law_minus [] (aCons (eBin gIx (eVar 5) (eLit (.int 0))) (aCons (eBin gIx (eVar 6) (eLit (.int 0))) aNil))) (aCons (eTup (aCons (eLit (.int 0)) (aCons (eLit (.int 1)) aNil))) aNil))))) R1_law)))))
theorem isHT {o : Option (List P)} : isT (oT o) .non = some o.isNone := isO
theorem oT_some {h : List P} : oT (some h) = pL h := rfl
theorem oT_none : oT none = T.non := rfl
/-- what is drawn -/
structure D35 (l s : List P) (u : P × Rat) : Prop where
  H : Hu l s
  ne : l ≠ []
  ll : l.length ≤ 8
  zl : ∀ p ∈ l, Np 30 p
  u0 : u.1 ≠ (0, 0)
  zu : Np 60 u.1
  zc : N36 3708 u.2
def TL (s : List P) (u : P × Rat) : Option (List P) := if cutP s u = [] then none else some (HU (cutP s u))
section
variable {l s : List P} {u : P × Rat}
theorem D35.zs (D : D35 l s u) : ∀ p ∈ s, Np 30 p := fun p hp => D.zl p (D.H.sub p hp)
theorem D35.ls (D : D35 l s u) : s.length ≤ 8 := by have := nd_len D.H.nd D.H.sub; have := D.ll; omega
theorem D35.z5 (D : D35 l s u) : ∀ p ∈ s, Zp 5 p := fun p hp => (D.zs p hp).zp (by decide) (by decide)
theorem D35.l5 (D : D35 l s u) : ∀ p ∈ l, Zp 5 p := fun p hp => (D.zl p hp).zp (by decide) (by decide)
theorem D35.u6 (D : D35 l s u) : Zp 6 u.1 := D.zu.zp (by decide) (by decide)
theorem D35.c12 (D : D35 l s u) : Sz 12 u.2 := N36.sz D.zc (by decide) (by decide)
theorem D35.op (D : D35 l s u) : D35 l s (op u) := ⟨D.H, D.ne, D.ll, D.zl, fun z => D.u0 (by
    have : ng u.1 = (0, 0) := z
    rw [← ng_ng u.1, this]
    rfl), ⟨D.zu.1.neg, D.zu.2.neg⟩, by
    obtain ⟨i, h, e⟩ := D.zc
    refine ⟨-i, by omega, ?_⟩
    show -u.2 = _
    rw [e, Rat.intCast_neg]
    grind⟩
theorem cutl_len (D : D35 l s u) : (cutP s u).length ≤ 16 := by
  unfold cutP
  rw [List.length_append]
  have a := List.length_filter_le (fun p => !decide (0 < ab u p)) s
  have b := List.length_filterMap_le (fun e => if Chg u e then some (xp u e) else none) (sd s)
  rw [sd_len] at b
  have := D.ls
  omega
theorem D35.tz (D : D35 l s u) (hn : cutP s u ≠ []) : ∀ p ∈ HU (cutP s u), Zp 20 p := fun p hp => (T_pt D.zs D.zu D.zc ((HU_ok hn).sub p hp)).1
theorem D35.tl (D : D35 l s u) (hn : cutP s u ≠ []) : (HU (cutP s u)).length ≤ 16 := by have := nd_len (HU_ok hn).nd (HU_ok hn).sub; have := cutl_len D; omega
theorem gIs_oT {o : Option (List P)} : gIs (oT o) .non = some (.bl o.isNone) := by cases o <;> rfl
theorem gIsNot_oT {o : Option (List P)} : gIsNot (oT o) .non = some (.bl (!o.isNone)) := by cases o <;> rfl
theorem r6_ok (D : D35 l s u) {p : T} (hp : Pool ns p) {q : P} (hq : Zp 43 q) {x2 x5 x6 x8 x10 x11 x12 x13 x14 x16 x17 : Option T} : @WS R6_law [some (scr ns), some p, x2, some (pL l), some (pL s), x5, x6, some (hT u), x8, some (oT (TL s u)), x10, x11, x12, x13, x14, some (pT q), x16, x17, none] ⟨fun o => ∃ x17, o = .nx [some (scr ns), some p, x2, some (pL l), some (pL s), x5, x6, some (hT u), x8, some (oT (TL s u)), x10, x11, x12, x13, x14, some (pT q), x16, x17, none]⟩ := by
  obtain ⟨r, er, kr⟩ := linside2_spec (l := l) (q := q) (n := 5) (m := 43) (by have := D.ll; omega) D.l5 hq (by decide) (by decide)
  have al1 := lalong_spec (a := q) (b := u.1) (n := 43) hq (D.u6.mono (by decide)) (by decide)
  have sal : Sz 173 (al q u.1) := sz_al hq (D.u6.mono (by decide))
  have un := lunder_spec D.c12 sal (by decide)
  have h2 : gIx (hT u) (.int 2) = some (qT u.2) := rfl
  have h3 : gSl (hT u) none (some 2) = some (pT u.1) := rfl
  have inS : In l q ↔ Cv s q := by rw [in_cv D.ne]; exact (hu_iff D.H).symm
  have abq : (u.2 < al q u.1) ↔ ¬ ab u q ≤ 0 := by unfold ab; grind
  unfold R6_law
  by_cases cn : cutP s u = []
  · have iN : (TL s u).isNone = true := by unfold TL; rw [if_pos cn]; rfl
    cases hr : r with
    | false =>
      rw [hr] at er
      dsimp? [Int.cast_ofNat_Int, Int.natCast_one, Int.natCast_zero, ixP0, ixP1, ixQ0, ixQ1, r_eqP, r_neP, r_eqQ, r_neQ, r_eqL, r_neL, r_inP, r_ninP, lenP, slTo, slFrom, slLast, slLastN, revP, isLP, ↓sAP, ↓sLP, qT_0, e_hull, e__law_point, e__law_number, e__law_points, e__law_minus, e__law_plus, e__law_along, e__law_under, e__law_inside, e__law_over, e_cut, e_area, e_has, e__law_pool, e__law_pick, e__law_draw, ↓we_comp2, er, isO, iN, r_neBB, bne_self_eq_false]
      exact ⟨_, rfl⟩
    | true =>
      rw [hr] at er
      have c : Cv s q := inS.mp (kr.mp hr)
      have := cut_nil cn c
      rw [decide_eq_true (abq.mpr (by grind))] at un
      dsimp? [Int.cast_ofNat_Int, Int.natCast_one, Int.natCast_zero, ixP0, ixP1, ixQ0, ixQ1, r_eqP, r_neP, r_eqQ, r_neQ, r_eqL, r_neL, r_inP, r_ninP, lenP, slTo, slFrom, slLast, slLastN, revP, isLP, ↓sAP, ↓sLP, qT_0, e_hull, e__law_point, e__law_number, e__law_points, e__law_minus, e__law_plus, e__law_along, e__law_under, e__law_inside, e__law_over, e_cut, e_area, e_has, e__law_pool, e__law_pick, e__law_draw, ↓we_comp2, er, al1, un, h2, h3, isO, iN, r_neBB, bne_self_eq_false]
      exact ⟨_, rfl⟩
  · have eT : TL s u = some (HU (cutP s u)) := if_neg cn
    have HT := HU_ok cn
    obtain ⟨r2, er2, kr2⟩ := has_spec (l := HU (cutP s u)) (q := q) (n := 43) HT.ne (by have := D.tl cn; omega) (fun p hp => (D.tz cn p hp).mono (by decide)) hq (by decide)
    have k2 : r2 = true ↔ Cv s q ∧ ab u q ≤ 0 := by rw [kr2, has_cv HT, hu_iff HT, cut_cv D.H cn]
    have gi : gIsNot (pL (HU (cutP s u))) .non = some (.bl true) := rfl
    have eO : oT (TL s u) = pL (HU (cutP s u)) := by rw [eT]; rfl
    rw [eO]
    cases hr : r with
    | false =>
      rw [hr] at er
      have : r2 = false := by
        cases h : r2 with
        | false => rfl
        | true =>
          have := kr.mpr (inS.mpr (k2.mp h).1)
          rw [hr] at this
          cases this
      rw [this] at er2
      dsimp? [Int.cast_ofNat_Int, Int.natCast_one, Int.natCast_zero, ixP0, ixP1, ixQ0, ixQ1, r_eqP, r_neP, r_eqQ, r_neQ, r_eqL, r_neL, r_inP, r_ninP, lenP, slTo, slFrom, slLast, slLastN, revP, isLP, ↓sAP, ↓sLP, qT_0, e_hull, e__law_point, e__law_number, e__law_points, e__law_minus, e__law_plus, e__law_along, e__law_under, e__law_inside, e__law_over, e_cut, e_area, e_has, e__law_pool, e__law_pick, e__law_draw, ↓we_comp2, er, er2, isPL, r_neBB, bne_self_eq_false]
      exact ⟨_, rfl⟩
    | true =>
      rw [hr] at er
      have c : Cv s q := inS.mp (kr.mp hr)
      by_cases ca : u.2 < al q u.1
      · rw [decide_eq_true ca] at un
        have : r2 = false := by
          cases h : r2 with
          | false => rfl
          | true => exact absurd (k2.mp h).2 (abq.mp ca)
        rw [this] at er2
        dsimp? [Int.cast_ofNat_Int, Int.natCast_one, Int.natCast_zero, ixP0, ixP1, ixQ0, ixQ1, r_eqP, r_neP, r_eqQ, r_neQ, r_eqL, r_neL, r_inP, r_ninP, lenP, slTo, slFrom, slLast, slLastN, revP, isLP, ↓sAP, ↓sLP, qT_0, e_hull, e__law_point, e__law_number, e__law_points, e__law_minus, e__law_plus, e__law_along, e__law_under, e__law_inside, e__law_over, e_cut, e_area, e_has, e__law_pool, e__law_pick, e__law_draw, ↓we_comp2, er, al1, un, h2, h3, er2, isPL, r_neBB, bne_self_eq_false]
        exact ⟨_, rfl⟩
      · rw [decide_eq_false ca] at un
        have : r2 = true := k2.mpr ⟨c, by grind⟩
        rw [this] at er2
        dsimp? [Int.cast_ofNat_Int, Int.natCast_one, Int.natCast_zero, ixP0, ixP1, ixQ0, ixQ1, r_eqP, r_neP, r_eqQ, r_neQ, r_eqL, r_neL, r_inP, r_ninP, lenP, slTo, slFrom, slLast, slLastN, revP, isLP, ↓sAP, ↓sLP, qT_0, e_hull, e__law_point, e__law_number, e__law_points, e__law_minus, e__law_plus, e__law_along, e__law_under, e__law_inside, e__law_over, e_cut, e_area, e_has, e__law_pool, e__law_pick, e__law_draw, ↓we_comp2, er, al1, un, h2, h3, er2, isPL, r_neBB, bne_self_eq_false]
        exact ⟨_, rfl⟩
/-- the probes -/
theorem r5_ok (D : D35 l s u) {p : T} (hp : Pool ns p) {x2 x5 x6 x8 x10 x11 x12 x13 y15 : Option T} : @WS R5_law [some (scr ns), some p, x2, some (pL l), some (pL s), x5, x6, some (hT u), x8, some (oT (TL s u)), x10, x11, x12, x13, none, y15, none, none, none] ⟨fun o => ∃ p' x15, Pool ns p' ∧ o = .nx [some (scr ns), some p', none, none, none, none, none, none, none, none, none, none, none, none, none, x15, none, none, none]⟩ := by
  unfold R5_law
  dsimp? [Int.cast_ofNat_Int, Int.natCast_one, Int.natCast_zero, ixP0, ixP1, ixQ0, ixQ1, r_eqP, r_neP, r_eqQ, r_neQ, r_eqL, r_neL, r_inP, r_ninP, lenP, slTo, slFrom, slLast, slLastN, revP, isLP, ↓sAP, ↓sLP, qT_0, e_hull, e__law_point, e__law_number, e__law_points, e__law_minus, e__law_plus, e__law_along, e__law_under, e__law_inside, e__law_over, e_cut, e_area, e_has, e__law_pool, e__law_pick, e__law_draw, ↓we_comp2]
  refine wf_rng (I := fun i γ => ∃ p' x14 x15 x16 x17, Pool ns p' ∧ γ = [some (scr ns), some p', x2, some (pL l), some (pL s), x5, x6, some (hT u), x8, some (oT (TL s u)), x10, x11, x12, x13, x14, x15, x16, x17, none]) ⟨p, _, _, _, _, hp, rfl⟩ ?_ ?_
  · rintro i γ hi ⟨p1, x14, x15, x16, x17, h1, rfl⟩
    rw [Int.zero_add]
    have fin : ∀ {q : P} {p2 : T} {x16 : Option T}, Pool ns p2 → Zp 43 q → @WS R6_law [some (scr ns), some p2, x2, some (pL l), some (pL s), x5, x6, some (hT u), x8, some (oT (TL s u)), x10, x11, x12, x13, some (.int i), some (pT q), x16, x17, none] ⟨fun o => ∃ p' x14 x15 x16 x17, Pool ns p' ∧ o = .nx [some (scr ns), some p', x2, some (pL l), some (pL s), x5, x6, some (hT u), x8, some (oT (TL s u)), x10, x11, x12, x13, x14, x15, x16, x17, none]⟩ := fun {q p2 x16} h2 hq => ws_mono (r6_ok D h2 hq) (by rintro o ⟨x17, rfl⟩; exact ⟨p2, _, _, _, _, h2, rfl⟩)
    have fin2 : ∀ {Q : KQ} {q : P} {p2 : T} {x16 : Option T}, Pool ns p2 → Zp 43 q → @WS R6_law [some (scr ns), some p2, x2, some (pL l), some (pL s), x5, x6, some (hT u), x8, some (oT (TL s u)), x10, x11, x12, x13, some (.int i), some (pT q), x16, x17, none] (lpK (fun γ => ∃ p' x14 x15 x16 x17, Pool ns p' ∧ γ = [some (scr ns), some p', x2, some (pL l), some (pL s), x5, x6, some (hT u), x8, some (oT (TL s u)), x10, x11, x12, x13, x14, x15, x16, x17, none]) Q) := fun h2 hq => ws_mono (fin h2 hq) (by rintro o ⟨p', x14, x15, x16, x17, h, rfl⟩; exact ⟨p', x14, x15, x16, x17, h, rfl⟩)
    dsimp? [Int.cast_ofNat_Int, Int.natCast_one, Int.natCast_zero, ixP0, ixP1, ixQ0, ixQ1, r_eqP, r_neP, r_eqQ, r_neQ, r_eqL, r_neL, r_inP, r_ninP, lenP, slTo, slFrom, slLast, slLastN, revP, isLP, ↓sAP, ↓sLP, qT_0, e_hull, e__law_point, e__law_number, e__law_points, e__law_minus, e__law_plus, e__law_along, e__law_under, e__law_inside, e__law_over, e_cut, e_area, e_has, e__law_pool, e__law_pick, e__law_draw, ↓we_comp2]
    refine br_d (fun c => ?_) (fun c => ?_)
    · dsimp? [Int.cast_ofNat_Int, Int.natCast_one, Int.natCast_zero, ixP0, ixP1, ixQ0, ixQ1, r_eqP, r_neP, r_eqQ, r_neQ, r_eqL, r_neL, r_inP, r_ninP, lenP, slTo, slFrom, slLast, slLastN, revP, isLP, ↓sAP, ↓sLP, qT_0, e_hull, e__law_point, e__law_number, e__law_points, e__law_minus, e__law_plus, e__law_along, e__law_under, e__law_inside, e__law_over, e_cut, e_area, e_has, e__law_pool, e__law_pick, e__law_draw, ↓we_comp2]
      refine point_n (top := 5) h1 (by omega) fun q p2 h2 hq => ?_
      have hq : Np 30 q := hq
      have zq : Zp 43 q := (hq.zp (by decide) (by decide) : Zp 5 q).mono (by decide)
      dsimp? [Int.cast_ofNat_Int, Int.natCast_one, Int.natCast_zero, ixP0, ixP1, ixQ0, ixQ1, r_eqP, r_neP, r_eqQ, r_neQ, r_eqL, r_neL, r_inP, r_ninP, lenP, slTo, slFrom, slLast, slLastN, revP, isLP, ↓sAP, ↓sLP, qT_0, e_hull, e__law_point, e__law_number, e__law_points, e__law_minus, e__law_plus, e__law_along, e__law_under, e__law_inside, e__law_over, e_cut, e_area, e_has, e__law_pool, e__law_pick, e__law_draw, ↓we_comp2]
      refine br_d (fun c3 => ?_) (fun c3 => ?_)
      · dsimp? [Int.cast_ofNat_Int, Int.natCast_one, Int.natCast_zero, ixP0, ixP1, ixQ0, ixQ1, r_eqP, r_neP, r_eqQ, r_neQ, r_eqL, r_neL, r_inP, r_ninP, lenP, slTo, slFrom, slLast, slLastN, revP, isLP, ↓sAP, ↓sLP, qT_0, e_hull, e__law_point, e__law_number, e__law_points, e__law_minus, e__law_plus, e__law_along, e__law_under, e__law_inside, e__law_over, e_cut, e_area, e_has, e__law_pool, e__law_pick, e__law_draw, ↓we_comp2, isO]
        by_cases cn : cutP s u = []
        · have iN : (TL s u).isNone = true := by unfold TL; rw [if_pos cn]; rfl
          dsimp? [Int.cast_ofNat_Int, Int.natCast_one, Int.natCast_zero, ixP0, ixP1, ixQ0, ixQ1, r_eqP, r_neP, r_eqQ, r_neQ, r_eqL, r_neL, r_inP, r_ninP, lenP, slTo, slFrom, slLast, slLastN, revP, isLP, ↓sAP, ↓sLP, qT_0, e_hull, e__law_point, e__law_number, e__law_points, e__law_minus, e__law_plus, e__law_along, e__law_under, e__law_inside, e__law_over, e_cut, e_area, e_has, e__law_pool, e__law_pick, e__law_draw, ↓we_comp2, iN, isPL]
          exact fin2 h2 zq
        · have eT : TL s u = some (HU (cutP s u)) := if_neg cn
          have HT := HU_ok cn
          have eO : oT (TL s u) = pL (HU (cutP s u)) := by rw [eT]; rfl
          rw [eO] at fin2 ⊢
          have iN : (TL s u).isNone = false := by rw [eT]; rfl
          have l0 := List.length_pos_iff.mpr HT.ne
          have lT := D.tl cn
          have tz := D.tz cn
          generalize HU (cutP s u) = m at *
          dsimp? [Int.cast_ofNat_Int, Int.natCast_one, Int.natCast_zero, ixP0, ixP1, ixQ0, ixQ1, r_eqP, r_neP, r_eqQ, r_neQ, r_eqL, r_neL, r_inP, r_ninP, lenP, slTo, slFrom, slLast, slLastN, revP, isLP, ↓sAP, ↓sLP, qT_0, e_hull, e__law_point, e__law_number, e__law_points, e__law_minus, e__law_plus, e__law_along, e__law_under, e__law_inside, e__law_over, e_cut, e_area, e_has, e__law_pool, e__law_pick, e__law_draw, ↓we_comp2, iN, isPL]
          refine pick_w h2 (by intro z; have := congrArg List.length z; rw [List.length_map, List.length_nil] at this; omega) (by rw [List.length_map]; omega) fun v p3 h3 hv => ?_
          obtain ⟨y, hy, rfl⟩ := List.mem_map.mp hv
          have zy := tz y hy
          have z0 := tz _ (g_mem l0)
          have i0 : gIx (pL m) (.int 0) = some (pT (g m 0)) := ixL (l := m) (k := 0) l0
          dsimp? [Int.cast_ofNat_Int, Int.natCast_one, Int.natCast_zero, ixP0, ixP1, ixQ0, ixQ1, r_eqP, r_neP, r_eqQ, r_neQ, r_eqL, r_neL, r_inP, r_ninP, lenP, slTo, slFrom, slLast, slLastN, revP, isLP, ↓sAP, ↓sLP, qT_0, e_hull, e__law_point, e__law_number, e__law_points, e__law_minus, e__law_plus, e__law_along, e__law_under, e__law_inside, e__law_over, e_cut, e_area, e_has, e__law_pool, e__law_pick, e__law_draw, ↓we_comp2]
          refine wco_rng (fun k => if k = 0 then qT (((g m 0).1 + y.1) / 2) else qT (((g m 0).2 + y.2) / 2)) (by omega) (fun k hk => ?_) ?_
          · have : k = 0 ∨ k = 1 := by omega
            rcases this with rfl | rfl
            · dsimp? [Int.cast_ofNat_Int, Int.natCast_one, Int.natCast_zero, ixP0, ixP1, ixQ0, ixQ1, r_eqP, r_neP, r_eqQ, r_neQ, r_eqL, r_neL, r_inP, r_ninP, lenP, slTo, slFrom, slLast, slLastN, revP, isLP, ↓sAP, ↓sLP, qT_0, e_hull, e__law_point, e__law_number, e__law_points, e__law_minus, e__law_plus, e__law_along, e__law_under, e__law_inside, e__law_over, e_cut, e_area, e_has, e__law_pool, e__law_pick, e__law_draw, ↓we_comp2, i0, lplus_spec z0.1 zy.1 (by decide), qT_2, lover_spec (sz_add z0.1 zy.1) (sz_2 (n := 0)) (by decide) (by decide)]
            · dsimp? [Int.cast_ofNat_Int, Int.natCast_one, Int.natCast_zero, ixP0, ixP1, ixQ0, ixQ1, r_eqP, r_neP, r_eqQ, r_neQ, r_eqL, r_neL, r_inP, r_ninP, lenP, slTo, slFrom, slLast, slLastN, revP, isLP, ↓sAP, ↓sLP, qT_0, e_hull, e__law_point, e__law_number, e__law_points, e__law_minus, e__law_plus, e__law_along, e__law_under, e__law_inside, e__law_over, e_cut, e_area, e_has, e__law_pool, e__law_pick, e__law_draw, ↓we_comp2, i0, lplus_spec z0.2 zy.2 (by decide), qT_2, lover_spec (sz_add z0.2 zy.2) (sz_2 (n := 0)) (by decide) (by decide)]
              try rfl
          · dsimp? [Int.cast_ofNat_Int, Int.natCast_one, Int.natCast_zero, ixP0, ixP1, ixQ0, ixQ1, r_eqP, r_neP, r_eqQ, r_neQ, r_eqL, r_neL, r_inP, r_ninP, lenP, slTo, slFrom, slLast, slLastN, revP, isLP, ↓sAP, ↓sLP, qT_0, e_hull, e__law_point, e__law_number, e__law_points, e__law_minus, e__law_plus, e__law_along, e__law_under, e__law_inside, e__law_over, e_cut, e_area, e_has, e__law_pool, e__law_pick, e__law_draw, ↓we_comp2]
            exact fin2 (q := (((g m 0).1 + y.1) / 2, ((g m 0).2 + y.2) / 2)) h3 ⟨(sz_div (sz_add z0.1 zy.1) (sz_2 (n := 0)) (by decide)).mono (by decide), (sz_div (sz_add z0.2 zy.2) (sz_2 (n := 0)) (by decide)).mono (by decide)⟩
      · dsimp? [Int.cast_ofNat_Int, Int.natCast_one, Int.natCast_zero, ixP0, ixP1, ixQ0, ixQ1, r_eqP, r_neP, r_eqQ, r_neQ, r_eqL, r_neL, r_inP, r_ninP, lenP, slTo, slFrom, slLast, slLastN, revP, isLP, ↓sAP, ↓sLP, qT_0, e_hull, e__law_point, e__law_number, e__law_points, e__law_minus, e__law_plus, e__law_along, e__law_under, e__law_inside, e__law_over, e_cut, e_area, e_has, e__law_pool, e__law_pick, e__law_draw, ↓we_comp2]
        exact fin2 h2 zq
    · dsimp? [Int.cast_ofNat_Int, Int.natCast_one, Int.natCast_zero, ixP0, ixP1, ixQ0, ixQ1, r_eqP, r_neP, r_eqQ, r_neQ, r_eqL, r_neL, r_inP, r_ninP, lenP, slTo, slFrom, slLast, slLastN, revP, isLP, ↓sAP, ↓sLP, qT_0, e_hull, e__law_point, e__law_number, e__law_points, e__law_minus, e__law_plus, e__law_along, e__law_under, e__law_inside, e__law_over, e_cut, e_area, e_has, e__law_pool, e__law_pick, e__law_draw, ↓we_comp2]
      refine pick_w h1 (by simpa using D.H.ne) (by rw [List.length_map]; have := D.ls; omega) fun v p2 h2 hv => ?_
      obtain ⟨q, hq, rfl⟩ := List.mem_map.mp hv
      have zq : Zp 43 q := (D.z5 q hq).mono (by decide)
      dsimp? [Int.cast_ofNat_Int, Int.natCast_one, Int.natCast_zero, ixP0, ixP1, ixQ0, ixQ1, r_eqP, r_neP, r_eqQ, r_neQ, r_eqL, r_neL, r_inP, r_ninP, lenP, slTo, slFrom, slLast, slLastN, revP, isLP, ↓sAP, ↓sLP, qT_0, e_hull, e__law_point, e__law_number, e__law_points, e__law_minus, e__law_plus, e__law_along, e__law_under, e__law_inside, e__law_over, e_cut, e_area, e_has, e__law_pool, e__law_pick, e__law_draw, ↓we_comp2]
      refine br_d (fun c3 => absurd c3 (by omega)) (fun c3 => ?_)
      dsimp? [Int.cast_ofNat_Int, Int.natCast_one, Int.natCast_zero, ixP0, ixP1, ixQ0, ixQ1, r_eqP, r_neP, r_eqQ, r_neQ, r_eqL, r_neL, r_inP, r_ninP, lenP, slTo, slFrom, slLast, slLastN, revP, isLP, ↓sAP, ↓sLP, qT_0, e_hull, e__law_point, e__law_number, e__law_points, e__law_minus, e__law_plus, e__law_along, e__law_under, e__law_inside, e__law_over, e_cut, e_area, e_has, e__law_pool, e__law_pick, e__law_draw, ↓we_comp2]
      exact fin2 h2 zq
  · rintro γ ⟨p1, x14, x15, x16, x17, h1, rfl⟩
    dsimp? [Int.cast_ofNat_Int, Int.natCast_one, Int.natCast_zero, ixP0, ixP1, ixQ0, ixQ1, r_eqP, r_neP, r_eqQ, r_neQ, r_eqL, r_neL, r_inP, r_ninP, lenP, slTo, slFrom, slLast, slLastN, revP, isLP, ↓sAP, ↓sLP, qT_0, e_hull, e__law_point, e__law_number, e__law_points, e__law_minus, e__law_plus, e__law_along, e__law_under, e__law_inside, e__law_over, e_cut, e_area, e_has, e__law_pool, e__law_pick, e__law_draw, ↓we_comp2]
    exact ⟨_, _, h1, rfl⟩
theorem gLofP {l : List P} : gListOf [pL l] = some (pL l) := rfl
theorem lp_w : ∀ {S : Option (List P)} {t : Rat} {n : Nat}, Sz n t → True := fun _ => trivial
/-- no change, and the same again when it is cut again -/
theorem r4_ok (D : D35 l s u) {p : T} (hp : Pool ns p) {x2 x5 x6 x8 x10 x11 x13 y15 : Option T} : @WS R4_law [some (scr ns), some p, x2, some (pL l), some (pL s), x5, x6, some (hT u), x8, some (oT (TL s u)), x10, x11, some (qT (A2 (sd s) / 2)), x13, none, y15, none, none, none] ⟨fun o => ∃ p' x15, Pool ns p' ∧ o = .nx [some (scr ns), some p', none, none, none, none, none, none, none, none, none, none, none, none, none, x15, none, none, none]⟩ := by
  have ea := area_spec (l := s) (n := 5) (by have := D.ls; omega) D.z5 (by have := D.ls; omega)
  unfold R4_law
  dsimp? [Int.cast_ofNat_Int, Int.natCast_one, Int.natCast_zero, ixP0, ixP1, ixQ0, ixQ1, r_eqP, r_neP, r_eqQ, r_neQ, r_eqL, r_neL, r_inP, r_ninP, lenP, slTo, slFrom, slLast, slLastN, revP, isLP, ↓sAP, ↓sLP, qT_0, e_hull, e__law_point, e__law_number, e__law_points, e__law_minus, e__law_plus, e__law_along, e__law_under, e__law_inside, e__law_over, e_cut, e_area, e_has, e__law_pool, e__law_pick, e__law_draw, ↓we_comp2, ea, decide_true, Bool.not_true]
  by_cases cn : cutP s u = []
  · have iN : (TL s u).isNone = true := by unfold TL; rw [if_pos cn]; rfl
    dsimp? [Int.cast_ofNat_Int, Int.natCast_one, Int.natCast_zero, ixP0, ixP1, ixQ0, ixQ1, r_eqP, r_neP, r_eqQ, r_neQ, r_eqL, r_neL, r_inP, r_ninP, lenP, slTo, slFrom, slLast, slLastN, revP, isLP, ↓sAP, ↓sLP, qT_0, e_hull, e__law_point, e__law_number, e__law_points, e__law_minus, e__law_plus, e__law_along, e__law_under, e__law_inside, e__law_over, e_cut, e_area, e_has, e__law_pool, e__law_pick, e__law_draw, ↓we_comp2, isO, iN]
    exact r5_ok D hp
  · have eT : TL s u = some (HU (cutP s u)) := if_neg cn
    have HT := HU_ok cn
    have eO : oT (TL s u) = pL (HU (cutP s u)) := by rw [eT]; rfl
    have ec := cut_spec (h := HU (cutP s u)) (u := u) (n := 20) (m := 12) HT.ne (by have := D.tl cn; omega) (D.tz cn) (D.u6.mono (by decide)) D.c12 (by decide)
    rw [cut_all HT fun q hq => (cut_sub (HT.sub q hq)).2, if_neg HT.ne, HT.fix] at ec
    have r5 := @r5_ok ns l s u D p hp x2 x5 x6 x8 x10 x11 (some (qT (A2 (sd s) / 2))) x13 y15
    rw [eO] at r5 ⊢
    dsimp? [Int.cast_ofNat_Int, Int.natCast_one, Int.natCast_zero, ixP0, ixP1, ixQ0, ixQ1, r_eqP, r_neP, r_eqQ, r_neQ, r_eqL, r_neL, r_inP, r_ninP, lenP, slTo, slFrom, slLast, slLastN, revP, isLP, ↓sAP, ↓sLP, qT_0, e_hull, e__law_point, e__law_number, e__law_points, e__law_minus, e__law_plus, e__law_along, e__law_under, e__law_inside, e__law_over, e_cut, e_area, e_has, e__law_pool, e__law_pick, e__law_draw, ↓we_comp2, isPL, ec, oT_some]
    exact r5
theorem area_T (D : D35 l s u) (cn : cutP s u ≠ []) : LawS.sem_area [pL (HU (cutP s u))] = some (qT (A2 (sd (HU (cutP s u))) / 2), []) := by
  exact area_spec (n := 20) (by have := D.tl cn; omega) (D.tz cn) (by have := D.tl cn; omega)
theorem hull_T (D : D35 l s u) (cn : cutP s u ≠ []) : LawS.sem_hull [pL (HU (cutP s u))] = some (pL (HU (cutP s u)), []) := by
  have HT := HU_ok cn
  have := hull_spec (l := HU (cutP s u)) (n := 20) (by have := D.tl cn; omega) (D.tz cn) (by decide)
  rw [HT.fix] at this
  exact this
theorem TL_n (cn : cutP s u = []) : oT (TL s u) = .non := by unfold TL; rw [if_pos cn]; rfl
theorem TL_s (cn : cutP s u ≠ []) : oT (TL s u) = pL (HU (cutP s u)) := by unfold TL; rw [if_neg cn]; rfl
theorem oA_n (cn : cutP s u = []) : oA (cutP s u) = 0 := if_pos cn
theorem oA_s (cn : cutP s u ≠ []) : oA (cutP s u) = A2 (sd (HU (cutP s u))) / 2 := if_neg cn
theorem sz_oA (D : D35 l s u) : Sz 90 (oA (cutP s u)) := by
  by_cases cn : cutP s u = []
  · rw [oA_n cn]; exact sz_0 (n := 89)
  · rw [oA_s cn]; exact T_area D.ls D.zs D.u0 D.zu D.zc cn
theorem r3_ok (D : D35 l s u) {p : T} (hp : Pool ns p) {x2 x5 x6 x8 x11 y15 : Option T} : @WS R3_law [some (scr ns), some p, x2, some (pL l), some (pL s), x5, x6, some (hT u), x8, some (oT (TL s u)), some (oT (TL s (op u))), x11, none, none, none, y15, none, none, none] ⟨fun o => ∃ p' x15, Pool ns p' ∧ o = .nx [some (scr ns), some p', none, none, none, none, none, none, none, none, none, none, none, none, none, x15, none, none, none]⟩ := by
  have hs : Hu s s := by have := HU_ok D.H.ne; rwa [D.H.fix] at this
  have ca := cut_area hs D.u0
  have s1 := sz_oA D
  have s2 := sz_oA D.op
  have r4 : ∀ {x10 x11 x13 : Option T}, @WS R4_law [some (scr ns), some p, x2, some (pL l), some (pL s), x5, x6, some (hT u), x8, some (oT (TL s u)), x10, x11, some (qT (oA (cutP s u) + oA (cutP s (op u)))), x13, none, y15, none, none, none] ⟨fun o => ∃ p' x15, Pool ns p' ∧ o = .nx [some (scr ns), some p', none, none, none, none, none, none, none, none, none, none, none, none, none, x15, none, none, none]⟩ := by
    intro x10 x11 x13
    rw [ca]
    exact r4_ok D hp
  have iN : isT .non .non = some true := rfl
  unfold R3_law
  by_cases cu : cutP s u = []
  · by_cases cv : cutP s (op u) = []
    · rw [TL_n cu] at r4 ⊢
      rw [TL_n cv]
      rw [oA_n cu, oA_n cv, show (0 : Rat) + 0 = 0 by grind] at r4
      dsimp? [Int.cast_ofNat_Int, Int.natCast_one, Int.natCast_zero, ixP0, ixP1, ixQ0, ixQ1, r_eqP, r_neP, r_eqQ, r_neQ, r_eqL, r_neL, r_inP, r_ninP, lenP, slTo, slFrom, slLast, slLastN, revP, isLP, ↓sAP, ↓sLP, qT_0, e_hull, e__law_point, e__law_number, e__law_points, e__law_minus, e__law_plus, e__law_along, e__law_under, e__law_inside, e__law_over, e_cut, e_area, e_has, e__law_pool, e__law_pick, e__law_draw, ↓we_comp2, ↓wf_cons, ↓wf_nil, iN]
      exact r4
    · have a1 := area_T D.op cv
      have a2 := hull_T D.op cv
      have pl := lplus_spec (sz_0 (n := 0)) s2 (by decide)
      rw [TL_n cu] at r4 ⊢
      rw [TL_s cv]
      rw [oA_n cu, oA_s cv] at r4
      rw [oA_s cv] at pl
      dsimp? [Int.cast_ofNat_Int, Int.natCast_one, Int.natCast_zero, ixP0, ixP1, ixQ0, ixQ1, r_eqP, r_neP, r_eqQ, r_neQ, r_eqL, r_neL, r_inP, r_ninP, lenP, slTo, slFrom, slLast, slLastN, revP, isLP, ↓sAP, ↓sLP, qT_0, e_hull, e__law_point, e__law_number, e__law_points, e__law_minus, e__law_plus, e__law_along, e__law_under, e__law_inside, e__law_over, e_cut, e_area, e_has, e__law_pool, e__law_pick, e__law_draw, ↓we_comp2, ↓wf_cons, ↓wf_nil, iN, isPL, a1, a2, pl]
      exact r4
  · have b1 := area_T D cu
    have b2 := hull_T D cu
    have pm := lplus_spec (sz_0 (n := 0)) s1 (by decide)
    have z0 : (0 : Rat) + oA (cutP s u) = oA (cutP s u) := by grind
    rw [z0, oA_s cu] at pm
    by_cases cv : cutP s (op u) = []
    · rw [TL_s cu] at r4 ⊢
      rw [TL_n cv]
      rw [oA_s cu, oA_n cv, show A2 (sd (HU (cutP s u))) / 2 + 0 = A2 (sd (HU (cutP s u))) / 2 by grind] at r4
      dsimp? [Int.cast_ofNat_Int, Int.natCast_one, Int.natCast_zero, ixP0, ixP1, ixQ0, ixQ1, r_eqP, r_neP, r_eqQ, r_neQ, r_eqL, r_neL, r_inP, r_ninP, lenP, slTo, slFrom, slLast, slLastN, revP, isLP, ↓sAP, ↓sLP, qT_0, e_hull, e__law_point, e__law_number, e__law_points, e__law_minus, e__law_plus, e__law_along, e__law_under, e__law_inside, e__law_over, e_cut, e_area, e_has, e__law_pool, e__law_pick, e__law_draw, ↓we_comp2, ↓wf_cons, ↓wf_nil, iN, isPL, b1, b2, pm]
      exact r4
    · have a1 := area_T D.op cv
      have a2 := hull_T D.op cv
      have pl := lplus_spec s1 s2 (by decide)
      rw [TL_s cu] at r4 ⊢
      rw [TL_s cv]
      rw [oA_s cu, oA_s cv] at r4 pl
      dsimp? [Int.cast_ofNat_Int, Int.natCast_one, Int.natCast_zero, ixP0, ixP1, ixQ0, ixQ1, r_eqP, r_neP, r_eqQ, r_neQ, r_eqL, r_neL, r_inP, r_ninP, lenP, slTo, slFrom, slLast, slLastN, revP, isLP, ↓sAP, ↓sLP, qT_0, e_hull, e__law_point, e__law_number, e__law_points, e__law_minus, e__law_plus, e__law_along, e__law_under, e__law_inside, e__law_over, e_cut, e_area, e_has, e__law_pool, e__law_pick, e__law_draw, ↓we_comp2, ↓wf_cons, ↓wf_nil, iN, isPL, a1, a2, b1, b2, pl, pm]
      exact r4
/-- both sides are cut -/
theorem r2_ok (D : D35 l s u) {p : T} (hp : Pool ns p) {x2 x5 x6 y15 : Option T} : @WS R2_law [some (scr ns), some p, x2, some (pL l), some (pL s), x5, x6, some (hT u), none, none, none, none, none, none, none, y15, none, none, none] ⟨fun o => ∃ p' x15, Pool ns p' ∧ o = .nx [some (scr ns), some p', none, none, none, none, none, none, none, none, none, none, none, none, none, x15, none, none, none]⟩ := by
  have g0 : gIx (hT u) (.int 0) = some (qT u.1.1) := rfl
  have g1 : gIx (hT u) (.int 1) = some (qT u.1.2) := rfl
  have g2 : gIx (hT u) (.int 2) = some (qT u.2) := rfl
  have h3 : gSl (hT u) none (some 2) = some (pT u.1) := rfl
  have eop : T.tup [qT (-u.1.1), qT (-u.1.2), qT (-u.2)] = hT (op u) := rfl
  have c1 : LawS.sem_cut [pL s, hT u] = some (oT (TL s u), []) := cut_spec (n := 6) (m := 12) D.H.ne (by have := D.ls; omega) (fun p hp => (D.z5 p hp).mono (by decide)) D.u6 D.c12 (by decide)
  have c2 : LawS.sem_cut [pL s, hT (op u)] = some (oT (TL s (op u)), []) := cut_spec (n := 6) (m := 12) D.H.ne (by have := D.ls; omega) (fun p hp => (D.z5 p hp).mono (by decide)) D.op.u6 D.op.c12 (by decide)
  unfold R2_law
  dsimp? [Int.cast_ofNat_Int, Int.natCast_one, Int.natCast_zero, ixP0, ixP1, ixQ0, ixQ1, r_eqP, r_neP, r_eqQ, r_neQ, r_eqL, r_neL, r_inP, r_ninP, lenP, slTo, slFrom, slLast, slLastN, revP, isLP, ↓sAP, ↓sLP, qT_0, e_hull, e__law_point, e__law_number, e__law_points, e__law_minus, e__law_plus, e__law_along, e__law_under, e__law_inside, e__law_over, e_cut, e_area, e_has, e__law_pool, e__law_pick, e__law_draw, ↓we_comp2, g0, g1, g2, qT_neg, eop, c1, c2, gLofP]
  refine wco_fmx (fun q => if u.2 < al q u.1 then none else some (pT q)) (by have := D.ls; omega) (fun q hq => ?_) ?_
  · have zq := D.z5 q hq
    have al1 := lalong_spec (a := q) (b := u.1) (n := 6) (zq.mono (by decide)) D.u6 (by decide)
    have un := lunder_spec D.c12 (sz_al (n := 6) (zq.mono (by decide)) D.u6) (by decide)
    by_cases c : u.2 < al q u.1
    · rw [decide_eq_true c] at un
      dsimp? [Int.cast_ofNat_Int, Int.natCast_one, Int.natCast_zero, ixP0, ixP1, ixQ0, ixQ1, r_eqP, r_neP, r_eqQ, r_neQ, r_eqL, r_neL, r_inP, r_ninP, lenP, slTo, slFrom, slLast, slLastN, revP, isLP, ↓sAP, ↓sLP, qT_0, e_hull, e__law_point, e__law_number, e__law_points, e__law_minus, e__law_plus, e__law_along, e__law_under, e__law_inside, e__law_over, e_cut, e_area, e_has, e__law_pool, e__law_pick, e__law_draw, ↓we_comp2, h3, g2, al1, un, if_pos c]
    · rw [decide_eq_false c] at un
      dsimp? [Int.cast_ofNat_Int, Int.natCast_one, Int.natCast_zero, ixP0, ixP1, ixQ0, ixQ1, r_eqP, r_neP, r_eqQ, r_neQ, r_eqL, r_neL, r_inP, r_ninP, lenP, slTo, slFrom, slLast, slLastN, revP, isLP, ↓sAP, ↓sLP, qT_0, e_hull, e__law_point, e__law_number, e__law_points, e__law_minus, e__law_plus, e__law_along, e__law_under, e__law_inside, e__law_over, e_cut, e_area, e_has, e__law_pool, e__law_pick, e__law_draw, ↓we_comp2, h3, g2, al1, un, if_neg c]
  · by_cases cn : cutP s u = []
    · have iN : (TL s u).isNone = true := by unfold TL; rw [if_pos cn]; rfl
      have l0 : (s.filterMap fun q => if u.2 < al q u.1 then none else some (pT q)) = [] := by
        refine List.filterMap_eq_nil_iff.mpr fun q hq => ?_
        have := cut_nil cn (cv_self hq)
        exact if_pos (by unfold ab at this; grind)
      rw [l0]
      have eb : gEq (T.bl true) (T.bl false) = some (.bl false) := rfl
      dsimp? [Int.cast_ofNat_Int, Int.natCast_one, Int.natCast_zero, ixP0, ixP1, ixQ0, ixQ1, r_eqP, r_neP, r_eqQ, r_neQ, r_eqL, r_neL, r_inP, r_ninP, lenP, slTo, slFrom, slLast, slLastN, revP, isLP, ↓sAP, ↓sLP, qT_0, e_hull, e__law_point, e__law_number, e__law_points, e__law_minus, e__law_plus, e__law_along, e__law_under, e__law_inside, e__law_over, e_cut, e_area, e_has, e__law_pool, e__law_pick, e__law_draw, ↓we_comp2, isO, iN, eb]
      exact r3_ok D hp
    · have iN : (TL s u).isNone = false := by unfold TL; rw [if_neg cn]; rfl
      obtain ⟨q, hq, q0⟩ : ∃ q ∈ s, ab u q ≤ 0 := by
        apply Classical.byContradiction
        intro hno
        refine cn ?_
        have k : ∀ q ∈ s, 0 < ab u q := fun q hq => by
          apply Classical.byContradiction
          intro h0
          exact hno ⟨q, hq, by grind⟩
        unfold cutP
        rw [List.filter_eq_nil_iff.mpr fun q hq => by simpa using k q hq, List.filterMap_eq_nil_iff.mpr fun e he => if_neg (by
          have a := k _ (mem_sd he).1
          have b := k _ (mem_sd he).2
          unfold Chg
          grind)]
        rfl
      have l0 : 0 < (s.filterMap fun q => if u.2 < al q u.1 then none else some (pT q)).length := by
        refine List.length_pos_iff.mpr fun z => ?_
        have := List.filterMap_eq_nil_iff.mp z q hq
        rw [if_neg (by unfold ab at q0; grind)] at this
        cases this
      generalize (s.filterMap fun q => if u.2 < al q u.1 then none else some (pT q)) = L at *
      have d1 : decide ((0 : Int) < (L.length : Int)) = true := decide_eq_true (by omega)
      have eb : gEq (T.bl false) (T.bl true) = some (.bl false) := rfl
      dsimp? [Int.cast_ofNat_Int, Int.natCast_one, Int.natCast_zero, ixP0, ixP1, ixQ0, ixQ1, r_eqP, r_neP, r_eqQ, r_neQ, r_eqL, r_neL, r_inP, r_ninP, lenP, slTo, slFrom, slLast, slLastN, revP, isLP, ↓sAP, ↓sLP, qT_0, e_hull, e__law_point, e__law_number, e__law_points, e__law_minus, e__law_plus, e__law_along, e__law_under, e__law_inside, e__law_over, e_cut, e_area, e_has, e__law_pool, e__law_pick, e__law_draw, ↓we_comp2, isO, iN, d1, eb]
      exact r3_ok D hp
end
/-- the half plane -/
theorem h_ok {l : List P} (hn : l ≠ []) (hll : l.length ≤ 8) (hz : ∀ x ∈ l, Np 30 x) {d one : P} (ho : one ∈ HU l) (hd : Np 60 d) (d0 : d ≠ (0, 0)) {p : T} (hp : Pool ns p) {x2 x6 y15 : Option T} {x : T} : @WS H_law [some (scr ns), some p, x2, some (pL l), some (pL (HU l)), some (pT one), x6, some (.tup [qT d.1, qT d.2, x]), none, none, none, none, none, none, none, y15, none, none, none] ⟨fun o => ∃ p' x15, Pool ns p' ∧ o = .nx [some (scr ns), some p', none, none, none, none, none, none, none, none, none, none, none, none, none, x15, none, none, none]⟩ := by
  have H := HU_ok hn
  have no : Np 30 one := hz one (H.sub _ ho)
  have g0 : gIx (T.tup [qT d.1, qT d.2, x]) (.int 0) = some (qT d.1) := rfl
  have g1 : gIx (T.tup [qT d.1, qT d.2, x]) (.int 1) = some (qT d.2) := rfl
  have h3 : gSl (T.tup [qT d.1, qT d.2, x]) none (some 2) = some (pT d) := rfl
  have z6 : Zp 6 d := hd.zp (by decide) (by decide)
  have o6 : Zp 6 one := (no.zp (by decide) (by decide) : Zp 5 one).mono (by decide)
  have al1 := lalong_spec (a := one) (b := d) (n := 6) o6 z6 (by decide)
  have a36 : N36 3600 (al one d) := al_36 no hd
  unfold H_law
  dsimp? [Int.cast_ofNat_Int, Int.natCast_one, Int.natCast_zero, ixP0, ixP1, ixQ0, ixQ1, r_eqP, r_neP, r_eqQ, r_neQ, r_eqL, r_neL, r_inP, r_ninP, lenP, slTo, slFrom, slLast, slLastN, revP, isLP, ↓sAP, ↓sLP, qT_0, e_hull, e__law_point, e__law_number, e__law_points, e__law_minus, e__law_plus, e__law_along, e__law_under, e__law_inside, e__law_over, e_cut, e_area, e_has, e__law_pool, e__law_pick, e__law_draw, ↓we_comp2, g0, g1, h3, al1]
  refine number_n (top := 3) hp (by omega) fun y p2 h2 hy => ?_
  have hy : Nm 18 y := hy
  dsimp? [Int.cast_ofNat_Int, Int.natCast_one, Int.natCast_zero, ixP0, ixP1, ixQ0, ixQ1, r_eqP, r_neP, r_eqQ, r_neQ, r_eqL, r_neL, r_inP, r_ninP, lenP, slTo, slFrom, slLast, slLastN, revP, isLP, ↓sAP, ↓sLP, qT_0, e_hull, e__law_point, e__law_number, e__law_points, e__law_minus, e__law_plus, e__law_along, e__law_under, e__law_inside, e__law_over, e_cut, e_area, e_has, e__law_pool, e__law_pick, e__law_draw, ↓we_comp2]
  refine pick_w h2 (by simp) (by simp) fun v p3 h3 hv => ?_
  obtain ⟨w, rfl, hw⟩ : ∃ w, v = qT w ∧ Nm 18 w := by
    simp only [List.mem_cons, List.not_mem_nil, or_false] at hv
    have z : Nm 18 (0 : Rat) := ⟨0, by decide, by grind⟩
    rcases hv with rfl | rfl | rfl
    · exact ⟨0, rfl, z⟩
    · exact ⟨0, rfl, z⟩
    · exact ⟨y, rfl, hy⟩
  have w36 : N36 108 w := by
    obtain ⟨i, h, rfl⟩ := hw
    refine ⟨6 * i, by omega, ?_⟩
    rw [Rat.intCast_mul]
    grind
  have c36 : N36 3708 (al one d + w) := by
    obtain ⟨i, h, e⟩ := a36
    obtain ⟨j, h', e'⟩ := w36
    refine ⟨i + j, by omega, ?_⟩
    rw [e, e', Rat.intCast_add]
    grind
  have D : D35 l (HU l) (d, al one d + w) := ⟨H, hn, hll, hz, d0, hd, c36⟩
  have pl := lplus_spec (N36.sz a36 (n := 12) (by decide) (by decide)) (N36.sz w36 (n := 7) (by decide) (by decide)) (by decide)
  dsimp? [Int.cast_ofNat_Int, Int.natCast_one, Int.natCast_zero, ixP0, ixP1, ixQ0, ixQ1, r_eqP, r_neP, r_eqQ, r_neQ, r_eqL, r_neL, r_inP, r_ninP, lenP, slTo, slFrom, slLast, slLastN, revP, isLP, ↓sAP, ↓sLP, qT_0, e_hull, e__law_point, e__law_number, e__law_points, e__law_minus, e__law_plus, e__law_along, e__law_under, e__law_inside, e__law_over, e_cut, e_area, e_has, e__law_pool, e__law_pick, e__law_draw, ↓we_comp2, pl]
  exact r2_ok D h3
/-- one trial -/
theorem body_ok {p : T} (hp : Pool ns p) {x2 x15 : Option T} : @WS B_law [some (scr ns), some p, x2, none, none, none, none, none, none, none, none, none, none, none, none, x15, none, none, none] ⟨fun o => ∃ p' x15, Pool ns p' ∧ o = .nx [some (scr ns), some p', none, none, none, none, none, none, none, none, none, none, none, none, none, x15, none, none, none]⟩ := by
  unfold B_law
  dsimp? [Int.cast_ofNat_Int, Int.natCast_one, Int.natCast_zero, ixP0, ixP1, ixQ0, ixQ1, r_eqP, r_neP, r_eqQ, r_neQ, r_eqL, r_neL, r_inP, r_ninP, lenP, slTo, slFrom, slLast, slLastN, revP, isLP, ↓sAP, ↓sLP, qT_0, e_hull, e__law_point, e__law_number, e__law_points, e__law_minus, e__law_plus, e__law_along, e__law_under, e__law_inside, e__law_over, e_cut, e_area, e_has, e__law_pool, e__law_pick, e__law_draw, ↓we_comp2]
  refine points_n hp (by omega) (by omega) fun l p1 h1 hn hll hz => ?_
  have hll : l.length ≤ 8 := by omega
  have hz : ∀ x ∈ l, Np 30 x := hz
  have H := HU_ok hn
  have hsp := hull_spec (l := l) (n := 5) (by omega) (fun p hp => (hz p hp).zp (by decide) (by decide)) (by decide)
  dsimp? [Int.cast_ofNat_Int, Int.natCast_one, Int.natCast_zero, ixP0, ixP1, ixQ0, ixQ1, r_eqP, r_neP, r_eqQ, r_neQ, r_eqL, r_neL, r_inP, r_ninP, lenP, slTo, slFrom, slLast, slLastN, revP, isLP, ↓sAP, ↓sLP, qT_0, e_hull, e__law_point, e__law_number, e__law_points, e__law_minus, e__law_plus, e__law_along, e__law_under, e__law_inside, e__law_over, e_cut, e_area, e_has, e__law_pool, e__law_pick, e__law_draw, ↓we_comp2, hsp]
  refine pick_w h1 (by simpa using H.ne) (by rw [List.length_map]; have := nd_len H.nd H.sub; omega) fun v p2 h2 hv => ?_
  obtain ⟨one, ho, rfl⟩ := List.mem_map.mp hv
  dsimp? [Int.cast_ofNat_Int, Int.natCast_one, Int.natCast_zero, ixP0, ixP1, ixQ0, ixQ1, r_eqP, r_neP, r_eqQ, r_neQ, r_eqL, r_neL, r_inP, r_ninP, lenP, slTo, slFrom, slLast, slLastN, revP, isLP, ↓sAP, ↓sLP, qT_0, e_hull, e__law_point, e__law_number, e__law_points, e__law_minus, e__law_plus, e__law_along, e__law_under, e__law_inside, e__law_over, e_cut, e_area, e_has, e__law_pool, e__law_pick, e__law_draw, ↓we_comp2]
  refine point_n (top := 5) h2 (by omega) fun q p3 h3 hq => ?_
  have hq : Np 30 q := hq
  have lH : (HU l).length ≤ 8 := by have := nd_len H.nd H.sub; omega
  have ea : gAdd (pL (HU l)) (pL [q]) = some (pL (HU l ++ [q])) := addL (by simp; omega)
  dsimp? [Int.cast_ofNat_Int, Int.natCast_one, Int.natCast_zero, ixP0, ixP1, ixQ0, ixQ1, r_eqP, r_neP, r_eqQ, r_neQ, r_eqL, r_neL, r_inP, r_ninP, lenP, slTo, slFrom, slLast, slLastN, revP, isLP, ↓sAP, ↓sLP, qT_0, e_hull, e__law_point, e__law_number, e__law_points, e__law_minus, e__law_plus, e__law_along, e__law_under, e__law_inside, e__law_over, e_cut, e_area, e_has, e__law_pool, e__law_pick, e__law_draw, ↓we_comp2, one1, ea]
  refine pick_w h3 (by simp) (by simp; omega) fun v p4 h4 hv => ?_
  obtain ⟨other, hoo, rfl⟩ := List.mem_map.mp hv
  have no : Np 30 one := hz one (H.sub _ ho)
  have noo : Np 30 other := by
    rcases List.mem_append.mp hoo with h | h
    · exact hz other (H.sub _ h)
    · rw [List.mem_singleton.mp h]; exact hq
  have s1 : Zp 5 one := no.zp (by decide) (by decide)
  have s2 : Zp 5 other := noo.zp (by decide) (by decide)
  have m1 := lminus_spec s2.2 s1.2 (by decide)
  have m2 := lminus_spec s1.1 s2.1 (by decide)
  have hd : Np 60 (nrm (one, other)) := ⟨noo.2.sub no.2, no.1.sub noo.1⟩
  dsimp? [Int.cast_ofNat_Int, Int.natCast_one, Int.natCast_zero, ixP0, ixP1, ixQ0, ixQ1, r_eqP, r_neP, r_eqQ, r_neQ, r_eqL, r_neL, r_inP, r_ninP, lenP, slTo, slFrom, slLast, slLastN, revP, isLP, ↓sAP, ↓sLP, qT_0, e_hull, e__law_point, e__law_number, e__law_points, e__law_minus, e__law_plus, e__law_along, e__law_under, e__law_inside, e__law_over, e_cut, e_area, e_has, e__law_pool, e__law_pick, e__law_draw, ↓we_comp2, m1, m2]
  unfold R1_law
  rw [show T.tup [qT (other.2 - one.2), qT (one.1 - other.1), qT 0] = T.tup [qT (nrm (one, other)).1, qT (nrm (one, other)).2, qT 0] from rfl]
  generalize nrm (one, other) = d at *
  have g0 : gIx (T.tup [qT d.1, qT d.2, qT 0]) (.int 0) = some (qT d.1) := rfl
  have g1 : gIx (T.tup [qT d.1, qT d.2, qT 0]) (.int 1) = some (qT d.2) := rfl
  dsimp? [Int.cast_ofNat_Int, Int.natCast_one, Int.natCast_zero, ixP0, ixP1, ixQ0, ixQ1, r_eqP, r_neP, r_eqQ, r_neQ, r_eqL, r_neL, r_inP, r_ninP, lenP, slTo, slFrom, slLast, slLastN, revP, isLP, ↓sAP, ↓sLP, qT_0, e_hull, e__law_point, e__law_number, e__law_points, e__law_minus, e__law_plus, e__law_along, e__law_under, e__law_inside, e__law_over, e_cut, e_area, e_has, e__law_pool, e__law_pick, e__law_draw, ↓we_comp2, g0, g1]
  refine br_d (fun c1 => ?_) (fun c1 => ?_)
  · dsimp? [Int.cast_ofNat_Int, Int.natCast_one, Int.natCast_zero, ixP0, ixP1, ixQ0, ixQ1, r_eqP, r_neP, r_eqQ, r_neQ, r_eqL, r_neL, r_inP, r_ninP, lenP, slTo, slFrom, slLast, slLastN, revP, isLP, ↓sAP, ↓sLP, qT_0, e_hull, e__law_point, e__law_number, e__law_points, e__law_minus, e__law_plus, e__law_along, e__law_under, e__law_inside, e__law_over, e_cut, e_area, e_has, e__law_pool, e__law_pick, e__law_draw, ↓we_comp2, g0, g1]
    refine br_d (fun c2 => ?_) (fun c2 => ?_)
    · dsimp? [Int.cast_ofNat_Int, Int.natCast_one, Int.natCast_zero, ixP0, ixP1, ixQ0, ixQ1, r_eqP, r_neP, r_eqQ, r_neQ, r_eqL, r_neL, r_inP, r_ninP, lenP, slTo, slFrom, slLast, slLastN, revP, isLP, ↓sAP, ↓sLP, qT_0, e_hull, e__law_point, e__law_number, e__law_points, e__law_minus, e__law_plus, e__law_along, e__law_under, e__law_inside, e__law_over, e_cut, e_area, e_has, e__law_pool, e__law_pick, e__law_draw, ↓we_comp2]
      refine number_n (top := 3) h4 (by omega) fun y p5 h5 hy => ?_
      have hy : Nm 18 y := hy
      dsimp? [Int.cast_ofNat_Int, Int.natCast_one, Int.natCast_zero, ixP0, ixP1, ixQ0, ixQ1, r_eqP, r_neP, r_eqQ, r_neQ, r_eqL, r_neL, r_inP, r_ninP, lenP, slTo, slFrom, slLast, slLastN, revP, isLP, ↓sAP, ↓sLP, qT_0, e_hull, e__law_point, e__law_number, e__law_points, e__law_minus, e__law_plus, e__law_along, e__law_under, e__law_inside, e__law_over, e_cut, e_area, e_has, e__law_pool, e__law_pick, e__law_draw, ↓we_comp2]
      have e1 : T.tup [T.int 1, T.int 1] = qT 1 := (qT_int 1).symm
      rw [e1]
      exact h_ok (d := (y, 1)) hn hll hz ho ⟨by obtain ⟨i, h, e⟩ := hy; exact ⟨i, by omega, e⟩, 6, by decide, by grind⟩ (fun z => absurd (show (1 : Rat) = 0 from congrArg Prod.snd z) (by decide)) h5
    · dsimp? [Int.cast_ofNat_Int, Int.natCast_one, Int.natCast_zero, ixP0, ixP1, ixQ0, ixQ1, r_eqP, r_neP, r_eqQ, r_neQ, r_eqL, r_neL, r_inP, r_ninP, lenP, slTo, slFrom, slLast, slLastN, revP, isLP, ↓sAP, ↓sLP, qT_0, e_hull, e__law_point, e__law_number, e__law_points, e__law_minus, e__law_plus, e__law_along, e__law_under, e__law_inside, e__law_over, e_cut, e_area, e_has, e__law_pool, e__law_pick, e__law_draw, ↓we_comp2]
      exact h_ok hn hll hz ho hd (fun z => c2 (by rw [z]; rfl)) h4
  · dsimp? [Int.cast_ofNat_Int, Int.natCast_one, Int.natCast_zero, ixP0, ixP1, ixQ0, ixQ1, r_eqP, r_neP, r_eqQ, r_neQ, r_eqL, r_neL, r_inP, r_ninP, lenP, slTo, slFrom, slLast, slLastN, revP, isLP, ↓sAP, ↓sLP, qT_0, e_hull, e__law_point, e__law_number, e__law_points, e__law_minus, e__law_plus, e__law_along, e__law_under, e__law_inside, e__law_over, e_cut, e_area, e_has, e__law_pool, e__law_pick, e__law_draw, ↓we_comp2]
    exact h_ok hn hll hz ho hd (fun z => c1 (by rw [z]; rfl)) h4
end
theorem law_true (ns : List Int) (hl : ns.length ≤ 63) : sem_law [.old (ns.map T.int)] = some (.bl true, []) := by
  refine wc_eq ?_
  unfold sem_law F_law
  dsimp? [Int.cast_ofNat_Int, Int.natCast_one, Int.natCast_zero, ixP0, ixP1, ixQ0, ixQ1, r_eqP, r_neP, r_eqQ, r_neQ, r_eqL, r_neL, r_inP, r_ninP, lenP, slTo, slFrom, slLast, slLastN, revP, isLP, ↓sAP, ↓sLP, qT_0, e_hull, e__law_point, e__law_number, e__law_points, e__law_minus, e__law_plus, e__law_along, e__law_under, e__law_inside, e__law_over, e_cut, e_area, e_has, e__law_pool, e__law_pick, e__law_draw, ↓we_comp2]
  refine pool_w (ns := ns) fun p hp => ?_
  dsimp? [Int.cast_ofNat_Int, Int.natCast_one, Int.natCast_zero, ixP0, ixP1, ixQ0, ixQ1, r_eqP, r_neP, r_eqQ, r_neQ, r_eqL, r_neL, r_inP, r_ninP, lenP, slTo, slFrom, slLast, slLastN, revP, isLP, ↓sAP, ↓sLP, qT_0, e_hull, e__law_point, e__law_number, e__law_points, e__law_minus, e__law_plus, e__law_along, e__law_under, e__law_inside, e__law_over, e_cut, e_area, e_has, e__law_pool, e__law_pick, e__law_draw, ↓we_comp2]
  refine wf_rng (I := fun i γ => ∃ p x2 x15, Pool ns p ∧ γ = [some (scr ns), some p, x2, none, none, none, none, none, none, none, none, none, none, none, none, x15, none, none, none]) ⟨p, none, none, hp, rfl⟩ ?_ ?_
  · rintro i γ hi ⟨p1, x2, x15, h1, rfl⟩
    refine ⟨[some (scr ns), some p1, some (.int (0 + i)), none, none, none, none, none, none, none, none, none, none, none, none, x15, none, none, none], rfl, ?_⟩
    refine ws_mono (body_ok (x2 := some (.int (0 + i))) h1) ?_
    rintro o ⟨p2, x15, h2, rfl⟩
    exact ⟨p2, none, _, h2, rfl⟩
  · rintro γ ⟨p1, x2, x15, h1, rfl⟩
    dsimp? [Int.cast_ofNat_Int, Int.natCast_one, Int.natCast_zero, ixP0, ixP1, ixQ0, ixQ1, r_eqP, r_neP, r_eqQ, r_neQ, r_eqL, r_neL, r_inP, r_ninP, lenP, slTo, slFrom, slLast, slLastN, revP, isLP, ↓sAP, ↓sLP, qT_0, e_hull, e__law_point, e__law_number, e__law_points, e__law_minus, e__law_plus, e__law_along, e__law_under, e__law_inside, e__law_over, e_cut, e_area, e_has, e__law_pool, e__law_pick, e__law_draw, ↓we_comp2]
end Law

open PySem PySem.W PyProof.Rows
set_option maxHeartbeats 0 in
theorem PySem.Challenge.cw_inkwright_k35_shapes_cut_by_half_planes_holds : PySem.Challenge.rw_inkwright_k35_shapes_cut_by_half_planes.Holds := by
  w_on; o_law; k_head; (case hw => w_witness2)
  k_fill
  refine L2.walk_of (l := PySem.Challenge.rw_inkwright_k35_shapes_cut_by_half_planes) (n := 63) (k := 8) (x := "script") (CX := fun _ => L2.CX0) (sp := fun w => Tw.spF _ [false] false Law.sem_law) rfl (by decide) rfl ⟨rfl, by decide, by decide⟩ (fun w h Y => PySem.W.kIn_of Y) ?F (fun w H a ns hl ho hS => Tw.law_sp hS (Law.law_true ns hl)) (fun _ _ _ _ _ h => h)
  case F =>
    intro w mg fa h KX G hmg
    refine' Tw.law_F (nm := "law") (Law.ok_all (⟨(Tw.has_mk KX G ?a0 ?l0 ?c0 ?k0), (Tw.has_mk KX G ?a1 ?l1 ?c1 ?k1), (Tw.has_mk KX G ?a2 ?l2 ?c2 ?k2), (Tw.has_mk KX G ?a3 ?l3 ?c3 ?k3), (Tw.has_mk KX G ?a4 ?l4 ?c4 ?k4), (Tw.has_mk KX G ?a5 ?l5 ?c5 ?k5), (Tw.has_mk KX G ?a6 ?l6 ?c6 ?k6), (Tw.has_mk KX G ?a7 ?l7 ?c7 ?k7), (Tw.has_mk KX G ?a8 ?l8 ?c8 ?k8), (Tw.has_mk KX G ?a9 ?l9 ?c9 ?k9), (Tw.has_mk KX G ?a10 ?l10 ?c10 ?k10), (Tw.has_mk KX G ?a11 ?l11 ?c11 ?k11), (Tw.has_mk KX G ?a12 ?l12 ?c12 ?k12), (Tw.has_mk KX G ?a13 ?l13 ?c13 ?k13), (Tw.has_mk KX G ?a14 ?l14 ?c14 ?k14), (Tw.has_mk KX G ?a15 ?l15 ?c15 ?k15), (Tw.has_mk KX G ?a16 ?l16 ?c16 ?k16), (Tw.has_mk KX G ?a17 ?l17 ?c17 ?k17), (Tw.has_mk KX G ?a18 ?l18 ?c18 ?k18), (Tw.has_mk KX G ?a19 ?l19 ?c19 ?k19), (Tw.has_mk KX G ?a20 ?l20 ?c20 ?k20), (Tw.has_mk KX G ?a21 ?l21 ?c21 ?k21), (Tw.has_mk KX G ?a22 ?l22 ?c22 ?k22), (Tw.has_mk KX G ?a23 ?l23 ?c23 ?k23), (Tw.has_mk KX G ?a24 ?l24 ?c24 ?k24), (Tw.has_mk KX G ?a25 ?l25 ?c25 ?k25), (Tw.has_mk KX G ?a26 ?l26 ?c26 ?k26), (Tw.has_mk KX G ?a27 ?l27 ?c27 ?k27), (Tw.has_mk KX G ?a28 ?l28 ?c28 ?k28), (Tw.has_mk KX G ?a29 ?l29 ?c29 ?k29), (Tw.has_mk KX G ?a30 ?l30 ?c30 ?k30), (Tw.has_mk KX G ?a31 ?l31 ?c31 ?k31), (Tw.has_mk KX G ?a32 ?l32 ?c32 ?k32), (Tw.has_mk KX G ?a33 ?l33 ?c33 ?k33), (Tw.has_mk KX G ?a34 ?l34 ?c34 ?k34), (Tw.has_mk KX G ?a35 ?l35 ?c35 ?k35), (Tw.has_mk KX G ?a36 ?l36 ?c36 ?k36), (Tw.has_mk KX G ?a37 ?l37 ?c37 ?k37), (Tw.has_mk KX G ?a38 ?l38 ?c38 ?k38), (PySem.W.mg_none_of KX G ?z0), (PySem.W.mg_none_of KX G ?z1), (PySem.W.mg_none_of KX G ?z2), (PySem.W.mg_none_of KX G ?z3), (PySem.W.mg_none_of KX G ?z4), (PySem.W.mg_none_of KX G ?z5), (PySem.W.mg_none_of KX G ?z6), (PySem.W.mg_none_of KX G ?z7), (PySem.W.mg_none_of KX G ?z8), (Tw.cst_mk KX G ?m0 (Tw.cv_tup ?q0_0 ?q0_0e (.cons Tw.cv_int (.cons Tw.cv_int .nil)))), (PySem.W.mg_of KX G ?y0)⟩ : Law.Facts _ mg)) hmg
    (case a0 => k_is); (case l0 => k_is); (case c0 => k_is); (case k0 => k_is); (case a1 => k_is); (case l1 => k_is); (case c1 => k_is); (case k1 => k_is); (case a2 => k_is); (case l2 => k_is); (case c2 => k_is); (case k2 => k_is); (case a3 => k_is); (case l3 => k_is); (case c3 => k_is); (case k3 => k_is); (case a4 => k_is); (case l4 => k_is); (case c4 => k_is); (case k4 => k_is); (case a5 => k_is); (case l5 => k_is); (case c5 => k_is); (case k5 => k_is); (case a6 => k_is); (case l6 => k_is); (case c6 => k_is); (case k6 => k_is); (case a7 => k_is); (case l7 => k_is); (case c7 => k_is); (case k7 => k_is); (case a8 => k_is); (case l8 => k_is); (case c8 => k_is); (case k8 => k_is); (case a9 => k_is); (case l9 => k_is); (case c9 => k_is); (case k9 => k_is); (case a10 => k_is); (case l10 => k_is); (case c10 => k_is); (case k10 => k_is); (case a11 => k_is); (case l11 => k_is); (case c11 => k_is); (case k11 => k_is); (case a12 => k_is); (case l12 => k_is); (case c12 => k_is); (case k12 => k_is); (case a13 => k_is); (case l13 => k_is); (case c13 => k_is); (case k13 => k_is); (case a14 => k_is); (case l14 => k_is); (case c14 => k_is); (case k14 => k_is); (case a15 => k_is); (case l15 => k_is); (case c15 => k_is); (case k15 => k_is); (case a16 => k_is); (case l16 => k_is); (case c16 => k_is); (case k16 => k_is); (case a17 => k_is); (case l17 => k_is); (case c17 => k_is); (case k17 => k_is); (case a18 => k_is); (case l18 => k_is); (case c18 => k_is); (case k18 => k_is); (case a19 => k_is); (case l19 => k_is); (case c19 => k_is); (case k19 => k_is); (case a20 => k_is); (case l20 => k_is); (case c20 => k_is); (case k20 => k_is); (case a21 => k_is); (case l21 => k_is); (case c21 => k_is); (case k21 => k_is); (case a22 => k_is); (case l22 => k_is); (case c22 => k_is); (case k22 => k_is); (case a23 => k_is); (case l23 => k_is); (case c23 => k_is); (case k23 => k_is); (case a24 => k_is); (case l24 => k_is); (case c24 => k_is); (case k24 => k_is); (case a25 => k_is); (case l25 => k_is); (case c25 => k_is); (case k25 => k_is); (case a26 => k_is); (case l26 => k_is); (case c26 => k_is); (case k26 => k_is); (case a27 => k_is); (case l27 => k_is); (case c27 => k_is); (case k27 => k_is); (case a28 => k_is); (case l28 => k_is); (case c28 => k_is); (case k28 => k_is); (case a29 => k_is); (case l29 => k_is); (case c29 => k_is); (case k29 => k_is); (case a30 => k_is); (case l30 => k_is); (case c30 => k_is); (case k30 => k_is); (case a31 => k_is); (case l31 => k_is); (case c31 => k_is); (case k31 => k_is); (case a32 => k_is); (case l32 => k_is); (case c32 => k_is); (case k32 => k_is); (case a33 => k_is); (case l33 => k_is); (case c33 => k_is); (case k33 => k_is); (case a34 => k_is); (case l34 => k_is); (case c34 => k_is); (case k34 => k_is); (case a35 => k_is); (case l35 => k_is); (case c35 => k_is); (case k35 => k_is); (case a36 => k_is); (case l36 => k_is); (case c36 => k_is); (case k36 => k_is); (case a37 => k_is); (case l37 => k_is); (case c37 => k_is); (case k37 => k_is); (case a38 => k_is); (case l38 => k_is); (case c38 => k_is); (case k38 => k_is); (case z0 => k_is); (case z1 => k_is); (case z2 => k_is); (case z3 => k_is); (case z4 => k_is); (case z5 => k_is); (case z6 => k_is); (case z7 => k_is); (case z8 => k_is); (case m0 => k_is); (case q0_0 => k_is); (case q0_0e => rfl); (case y0 => k_is)

