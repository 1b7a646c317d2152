import PyProof.Rows.All
import Wide.All
import OpenK.AllK
import Wide.FinOn
import HandS.ForMost
import HandS.Style
import HandS.TupAny
import HandS.Deep
import HandS.NoneIn
import HandS.Conv
import HandS.IsInst
import HandS.Gcd
import HandS.SortInts
import HandS.Zip
import HandS.Ends
import HandS.More
import HandS.SortKw
import KE.GoesEnumKw
import HandS.Text
import HandS.Iter
import HandS.Codes
import HandS.Replace
import PyProof.Draws
import PyProof.Rows.StrRev
import KE.SortData
import HandS.DictComp
import HandS.Dict
import HandS.Set
import HandS.TupSets
import PyProof.Rows.SetFrom
import PyProof.Rows.SortShellAny
import PyProof.StrLaws
import PySem.Challenge.RW_inkwright_k05_whole_labels_of_books
set_option Elab.async false
set_option linter.all false
set_option maxRecDepth 100000
set_option maxHeartbeats 4000000
set_option autoImplicit false
namespace Tw
open PySem PySem.Spec PyProof.Rows L2

/-! ### trees -/
inductive T where
  | non | bl (b : Bool) | int (i : Int) | str (x : Str)
  | tup (xs : List T) | lst (xs : List T) | dct (ks vs : List T) | old (xs : List T)
instance : Inhabited T := ⟨.non⟩

abbrev En := List (Option T)
def tK : Key → T
  | .inl i => .int i
  | .inr x => .str x
def tKs (l : List Key) : T := .tup (l.map tK)

mutual
def Rep (K : PySem.W.Frag) (G : Hp) : T → V → Prop
  | .non, v => v = .non
  | .bl b, v => v = .bl b
  | .int i, v => v = .int i
  | .str x, v => v = .str x
  | .tup ts, v => ∃ a vs, v = .ref a ∧ SqT K G a vs ∧ Reps K G ts vs
  | .lst ts, v => ∃ a vs, v = .ref a ∧ G a = some (.lst vs) ∧ Reps K G ts vs
  | .old ts, v => ∃ a vs, v = .ref a ∧ SqL K G a vs ∧ Reps K G ts vs
  | .dct ks ts, v => ∃ a, v = .ref a ∧ ((∃ kvs : List (Key × V), G a = some (.dK kvs) ∧ ks = kvs.map (fun p => tK p.1) ∧ Reps K G ts (kvs.map (·.2))) ∨
      (∃ kvs : List (List Key × V), G a = some (.dT kvs) ∧ ks = kvs.map (fun p => tKs p.1) ∧ Reps K G ts (kvs.map (·.2))))
def Reps (K : PySem.W.Frag) (G : Hp) : List T → List V → Prop
  | [], vs => vs = []
  | t :: ts, vs => ∃ v r, vs = v :: r ∧ Rep K G t v ∧ Reps K G ts r
end

/-- what stands at an owned address -/
def Ho (K : PySem.W.Frag) (G : Hp) (o : HO) : T → Prop
  | .lst ts => ∃ vs, o = .lst vs ∧ Reps K G ts vs
  | .dct ks ts => (∃ kvs : List (Key × V), o = .dK kvs ∧ ks = kvs.map (fun p => tK p.1) ∧ Reps K G ts (kvs.map (·.2))) ∨
      (∃ kvs : List (List Key × V), o = .dT kvs ∧ ks = kvs.map (fun p => tKs p.1) ∧ Reps K G ts (kvs.map (·.2)))
  | _ => False

section
variable {K : PySem.W.Frag} {G G' H H' : Hp}
mutual
theorem Rep.mono (h : Same G G') : ∀ {t : T} {v : V}, Rep K G t v → Rep K G' t v
  | .non, _, r => r
  | .bl _, _, r => r
  | .int _, _, r => r
  | .str _, _, r => r
  | .tup ts, v, r => by
    unfold Rep at r ⊢
    obtain ⟨a, vs, e, s, q⟩ := r
    refine ⟨a, vs, e, ?_, Reps.mono h q⟩
    rcases s with (s | ⟨o, s⟩) | s
    · exact .inl (.inl (h _ _ s))
    · exact .inl (.inr ⟨o, h _ _ s⟩)
    · exact .inr s
  | .lst ts, v, r => by
    unfold Rep at r ⊢
    obtain ⟨a, vs, e, s, q⟩ := r
    exact ⟨a, vs, e, h _ _ s, Reps.mono h q⟩
  | .old ts, v, r => by
    unfold Rep at r ⊢
    obtain ⟨a, vs, e, s, q⟩ := r
    exact ⟨a, vs, e, h.seq s, Reps.mono h q⟩
  | .dct ks ts, v, r => by
    unfold Rep at r ⊢
    obtain ⟨a, e, ⟨kvs, s, e2, q⟩ | ⟨kvs, s, e2, q⟩⟩ := r
    · exact ⟨a, e, .inl ⟨kvs, h _ _ s, e2, Reps.mono h q⟩⟩
    · exact ⟨a, e, .inr ⟨kvs, h _ _ s, e2, Reps.mono h q⟩⟩
theorem Reps.mono (h : Same G G') : ∀ {ts : List T} {vs : List V}, Reps K G ts vs → Reps K G' ts vs
  | [], _, r => r
  | t :: ts, vs, r => by
    unfold Reps at r ⊢
    obtain ⟨v, r', e, a, b⟩ := r
    exact ⟨v, r', e, Rep.mono h a, Reps.mono h b⟩
end
theorem Ho.mono (h : Same G G') {o : HO} {t : T} (r : Ho K G o t) : Ho K G' o t := by
  cases t with
  | lst ts => obtain ⟨vs, e, q⟩ := r; exact ⟨vs, e, q.mono h⟩
  | dct ks ts =>
    rcases r with ⟨kvs, s, e2, q⟩ | ⟨kvs, s, e2, q⟩
    · exact .inl ⟨kvs, s, e2, q.mono h⟩
    · exact .inr ⟨kvs, s, e2, q.mono h⟩
  | non => exact r
  | bl _ => exact r
  | int _ => exact r
  | str _ => exact r
  | tup _ => exact r
  | old _ => exact r
theorem Reps.nil : Reps K G [] [] := by unfold Reps; rfl
theorem Reps.cons {t v ts vs} (a : Rep K G t v) (b : Reps K G ts vs) : Reps K G (t :: ts) (v :: vs) := by unfold Reps; exact ⟨v, vs, rfl, a, b⟩
theorem Reps.length : ∀ {ts : List T} {vs : List V}, Reps K G ts vs → vs.length = ts.length
  | [], _, r => by unfold Reps at r; rw [r]; rfl
  | t :: ts, vs, r => by
    unfold Reps at r
    obtain ⟨v, r', e, a, b⟩ := r
    rw [e, List.length_cons, Reps.length b, List.length_cons]
theorem Reps.get : ∀ {ts : List T} {vs : List V} {i : Nat} {t : T}, Reps K G ts vs → ts[i]? = some t → ∃ v, vs[i]? = some v ∧ Rep K G t v
  | [], _, _, _, _, h => by simp at h
  | t :: ts, vs, 0, t', r, h => by
    unfold Reps at r
    obtain ⟨v, r', e, a, b⟩ := r
    subst e
    have : t = t' := by simpa using h
    subst this
    exact ⟨v, rfl, a⟩
  | t :: ts, vs, i + 1, t', r, h => by
    unfold Reps at r
    obtain ⟨v, r', e, a, b⟩ := r
    subst e
    obtain ⟨v', h1, h2⟩ := Reps.get (i := i) b (by simpa using h)
    exact ⟨v', by simpa using h1, h2⟩
theorem Reps.get' {ts : List T} {vs : List V} {i : Nat} {v : V} (r : Reps K G ts vs) (h : vs[i]? = some v) : ∃ t, ts[i]? = some t ∧ Rep K G t v := by
  have hi : i < ts.length := by
    rw [← r.length]
    exact (List.getElem?_eq_some_iff.mp h).1
  obtain ⟨v', h1, h2⟩ := r.get (List.getElem?_eq_getElem hi)
  rw [h] at h1
  cases h1
  exact ⟨_, List.getElem?_eq_getElem hi, h2⟩
theorem Reps.append : ∀ {ts us : List T} {vs ws : List V}, Reps K G ts vs → Reps K G us ws → Reps K G (ts ++ us) (vs ++ ws)
  | [], _, _, _, r, s => by unfold Reps at r; rw [r]; exact s
  | t :: ts, us, vs, ws, r, s => by
    unfold Reps at r
    obtain ⟨v, r', e, a, b⟩ := r
    subst e
    exact Reps.cons a (Reps.append b s)
theorem Reps.take : ∀ {ts : List T} {vs : List V} (n : Nat), Reps K G ts vs → Reps K G (ts.take n) (vs.take n)
  | _, _, 0, _ => by simpa using Reps.nil
  | [], _, n + 1, r => by unfold Reps at r; rw [r]; simpa using Reps.nil
  | t :: ts, vs, n + 1, r => by
    unfold Reps at r
    obtain ⟨v, r', e, a, b⟩ := r
    subst e
    exact Reps.cons a (Reps.take n b)
theorem Reps.drop : ∀ {ts : List T} {vs : List V} (n : Nat), Reps K G ts vs → Reps K G (ts.drop n) (vs.drop n)
  | _, _, 0, r => r
  | [], _, n + 1, r => by unfold Reps at r; rw [r]; simpa using Reps.nil
  | t :: ts, vs, n + 1, r => by
    unfold Reps at r
    obtain ⟨v, r', e, a, b⟩ := r
    subst e
    exact Reps.drop n b
theorem Reps.set : ∀ {ts : List T} {vs : List V} {t v} (n : Nat), Reps K G ts vs → Rep K G t v → Reps K G (ts.set n t) (vs.set n v)
  | [], _, _, _, _, r, _ => by unfold Reps at r; rw [r]; simpa using Reps.nil
  | t :: ts, vs, _, _, 0, r, q => by
    unfold Reps at r
    obtain ⟨v, r', e, a, b⟩ := r
    subst e
    exact Reps.cons q b
  | t :: ts, vs, _, _, n + 1, r, q => by
    unfold Reps at r
    obtain ⟨v, r', e, a, b⟩ := r
    subst e
    exact Reps.cons a (Reps.set n b q)
theorem Reps.erase : ∀ {ts : List T} {vs : List V} (n : Nat), Reps K G ts vs → Reps K G (ts.eraseIdx n) (vs.eraseIdx n)
  | [], _, _, r => by unfold Reps at r; rw [r]; simpa using Reps.nil
  | t :: ts, vs, 0, r => by
    unfold Reps at r
    obtain ⟨v, r', e, a, b⟩ := r
    subst e
    exact b
  | t :: ts, vs, n + 1, r => by
    unfold Reps at r
    obtain ⟨v, r', e, a, b⟩ := r
    subst e
    exact Reps.cons a (Reps.erase n b)
theorem Reps.dropLast {ts : List T} {vs : List V} (r : Reps K G ts vs) : Reps K G ts.dropLast vs.dropLast := by
  rw [List.dropLast_eq_take, List.dropLast_eq_take, r.length]
  exact r.take _
theorem Reps.reverse : ∀ {ts : List T} {vs : List V}, Reps K G ts vs → Reps K G ts.reverse vs.reverse
  | [], _, r => by unfold Reps at r; rw [r]; simpa using Reps.nil
  | t :: ts, vs, r => by
    unfold Reps at r
    obtain ⟨v, r', e, a, b⟩ := r
    subst e
    rw [List.reverse_cons, List.reverse_cons]
    exact (Reps.reverse b).append (.cons a .nil)
theorem Reps.rep {ts : List T} {vs : List V} (r : Reps K G ts vs) : ∀ k : Nat, Reps K G (List.replicate k ts).flatten (List.replicate k vs).flatten
  | 0 => by simpa using Reps.nil
  | k + 1 => by
    rw [List.replicate_succ, List.replicate_succ, List.flatten_cons, List.flatten_cons]
    exact r.append (Reps.rep r k)
theorem Reps.ints : ∀ {ns : List Int} {vs : List V}, Reps K G (ns.map T.int) vs → vs = ns.map V.int
  | [], _, r => by simpa [Reps] using r
  | n :: ns, vs, r => by
    rw [List.map_cons] at r
    unfold Reps at r
    obtain ⟨v, r', e, a, b⟩ := r
    unfold Rep at a
    rw [e, a, Reps.ints b]
    rfl
theorem Reps.ints_of : ∀ (ns : List Int), Reps K G (ns.map T.int) (ns.map V.int)
  | [] => Reps.nil
  | n :: ns => Reps.cons (by unfold Rep; rfl) (Reps.ints_of ns)
theorem Reps.bls : ∀ {ns : List Bool} {vs : List V}, Reps K G (ns.map T.bl) vs → vs = ns.map V.bl
  | [], _, r => by simpa [Reps] using r
  | n :: ns, vs, r => by
    rw [List.map_cons] at r
    unfold Reps at r
    obtain ⟨v, r', e, a, b⟩ := r
    unfold Rep at a
    rw [e, a, Reps.bls b]
    rfl
theorem Reps.strs : ∀ {ns : List Str} {vs : List V}, Reps K G (ns.map T.str) vs → vs = ns.map V.str
  | [], _, r => by simpa [Reps] using r
  | n :: ns, vs, r => by
    rw [List.map_cons] at r
    unfold Reps at r
    obtain ⟨v, r', e, a, b⟩ := r
    unfold Rep at a
    rw [e, a, Reps.strs b]
    rfl
end

/-! ### the state -/
/-- where a def began: its heap, the lasting part of it, the slots of the lists that it may change and their addresses -/
structure Nt where
  H : Hp
  G : Hp
  pins : List (Nat × Addr)

structure Sta (K : PySem.W.Frag) (N : Nt) (G : Hp) (κ : List Bool) (σ : L2.St) (H : Hp) (γ : En) : Prop where
  le : Same G H
  len : γ.length = σ.length
  shr : ∀ (i : Nat) (t : T), κ[i]? = some false → γ[i]? = some (some t) → ∃ v, σ[i]? = some (some v) ∧ Rep K G t v
  own : ∀ (i : Nat) (t : T), κ[i]? = some true → γ[i]? = some (some t) → ∃ a o, σ[i]? = some (some (.ref a)) ∧ G a = none ∧ H a = some o ∧ Ho K G o t ∧ (N.H a = none ∨ a ∈ N.pins.map (·.2))
  sep : ∀ (i j : Nat) (t u : T) (a : Addr), κ[i]? = some true → κ[j]? = some true → γ[i]? = some (some t) → γ[j]? = some (some u) → σ[i]? = some (some (.ref a)) → σ[j]? = some (some (.ref a)) → i = j
  klen : κ.length = γ.length
  pin : ∀ p ∈ N.pins, κ[p.1]? = some true ∧ (∃ t : T, γ[p.1]? = some (some t)) ∧ σ[p.1]? = some (some (.ref p.2))
  frm : ∀ a o, N.H a = some o → a ∉ N.pins.map (·.2) → H a = some o
  gle : Same N.G G
  gfr : ∀ a, G a ≠ none → N.G a ≠ none ∨ N.H a = none

/-- a value that may be read: lasting, or in an owned slot of B -/
def Rdy (K : PySem.W.Frag) (κ : List Bool) (G : Hp) (σ : L2.St) (γ : En) (B : List Nat) (t : T) (v : V) : Prop :=
  Rep K G t v ∨ ∃ i : Nat, i ∈ B ∧ κ[i]? = some true ∧ γ[i]? = some (some t) ∧ σ[i]? = some (some v)
/-- a new one, nobody else's -/
def Fre (K : PySem.W.Frag) (N : Nt) (κ : List Bool) (G : Hp) (σ : L2.St) (H : Hp) (γ : En) (t : T) (v : V) : Prop :=
  ∃ a o, v = .ref a ∧ G a = none ∧ H a = some o ∧ Ho K G o t ∧ N.H a = none ∧ ∀ (i : Nat) (u : T), κ[i]? = some true → γ[i]? = some (some u) → σ[i]? ≠ some (some (V.ref a))
def Rsl (K : PySem.W.Frag) (m : Bool) (N : Nt) (κ : List Bool) (G : Hp) (σ : L2.St) (H : Hp) (γ : En) (B : List Nat) (t : T) (v : V) : Prop :=
  if m then Fre K N κ G σ H γ t v else Rdy K κ G σ γ B t v

section
variable {K : PySem.W.Frag} {N : Nt} {G G' H H' : Hp} {κ : List Bool} {σ : L2.St} {γ γ' : En} {B B' : List Nat} {t u : T} {v x : V}
theorem Sta.fresh (S : Sta K N G κ σ H γ) {p : Addr} (hp : H p = none) : G p = none ∧ N.H p = none ∧ p ∉ N.pins.map (·.2) := by
  have h1 : G p = none := S.le.free hp
  have h2 : p ∉ N.pins.map (·.2) := fun hm => by
    obtain ⟨q, hq, e⟩ := List.mem_map.mp hm
    obtain ⟨k, ⟨t, ht⟩, hs⟩ := S.pin q hq
    obtain ⟨a, o, e1, _, e3, _⟩ := S.own _ _ k ht
    rw [hs] at e1
    cases e1
    rw [e, hp] at e3
    cases e3
  refine ⟨h1, ?_, h2⟩
  cases q : N.H p with
  | none => rfl
  | some o => rw [S.frm p o q h2] at hp; cases hp
/-- a new object is laid -/
theorem Sta.laid (S : Sta K N G κ σ H γ) {p : Addr} {o : HO} (hp : H p = none) : Sta K N G κ σ (upd H p o) γ := by
  have s1 : Same H (upd H p o) := fun b x e => by rw [upd_ne (ne_of_none e hp)]; exact e
  refine ⟨S.le.trans s1, S.len, S.shr, fun i t k g => ?_, S.sep, S.klen, S.pin, fun a o h n => s1 _ _ (S.frm a o h n), S.gle, S.gfr⟩
  obtain ⟨a, o', e1, e2, e3, e4⟩ := S.own i t k g
  exact ⟨a, o', e1, e2, s1 _ _ e3, e4⟩
theorem Sta.fre (S : Sta K N G κ σ H γ) {p : Addr} {o : HO} (hp : H p = none) (ho : Ho K G o t) : Fre K N κ G σ (upd H p o) γ t (.ref p) := by
  obtain ⟨h1, h2, _⟩ := S.fresh hp
  refine ⟨p, o, rfl, h1, upd_same, ho, h2, fun i u k g e => ?_⟩
  obtain ⟨a, o', e1, _, e3, _⟩ := S.own i u k g
  rw [e] at e1
  cases e1
  rw [hp] at e3
  cases e3
/-- .. and lasts -/
theorem Sta.lasts (S : Sta K N G κ σ H γ) {a : Addr} {o : HO} (h1 : G a = none) (h2 : H a = some o) (h3 : N.H a = none) (h4 : ∀ (i : Nat) (u : T), κ[i]? = some true → γ[i]? = some (some u) → σ[i]? ≠ some (some (V.ref a))) :
    Sta K N (upd G a o) κ σ H γ ∧ Same G (upd G a o) := by
  have s1 : Same G (upd G a o) := fun b x e => by rw [upd_ne (ne_of_none e h1)]; exact e
  refine ⟨⟨fun b x e => ?_, S.len, fun i t k g => ?_, fun i t k g => ?_, S.sep, S.klen, S.pin, S.frm, S.gle.trans s1, fun b hb => ?_⟩, s1⟩
  · by_cases hb : b = a
    · subst hb; rw [upd_same] at e; cases e; exact h2
    · rw [upd_ne hb] at e; exact S.le _ _ e
  · obtain ⟨v, e1, e2⟩ := S.shr i t k g
    exact ⟨v, e1, e2.mono s1⟩
  · obtain ⟨b, o', e1, e2, e3, e4, e5⟩ := S.own i t k g
    refine ⟨b, o', e1, ?_, e3, e4.mono s1, e5⟩
    rw [upd_ne]
    · exact e2
    · rintro rfl; exact h4 i t k g e1
  · by_cases hb' : b = a
    · subst hb'; exact .inr h3
    · rw [upd_ne hb'] at hb; exact S.gfr b hb
theorem Ho.rep {o : HO} {a : Addr} (h : Ho K G o t) (e : G a = some o) : Rep K G t (.ref a) := by
  cases t with
  | lst ts => obtain ⟨vs, rfl, q⟩ := h; unfold Rep; exact ⟨a, vs, rfl, e, q⟩
  | dct ks ts =>
    unfold Rep
    rcases h with ⟨kvs, rfl, e2, q⟩ | ⟨kvs, rfl, e2, q⟩
    · exact ⟨a, rfl, .inl ⟨kvs, e, e2, q⟩⟩
    · exact ⟨a, rfl, .inr ⟨kvs, e, e2, q⟩⟩
  | non => exact h.elim
  | bl _ => exact h.elim
  | int _ => exact h.elim
  | str _ => exact h.elim
  | tup _ => exact h.elim
  | old _ => exact h.elim
theorem Fre.lasts (S : Sta K N G κ σ H γ) (f : Fre K N κ G σ H γ t v) : ∃ G', Same G G' ∧ Sta K N G' κ σ H γ ∧ Rep K G' t v := by
  obtain ⟨a, o, rfl, h1, h2, h3, h4, h5⟩ := f
  obtain ⟨S', s1⟩ := S.lasts h1 h2 h4 h5
  exact ⟨_, s1, S', (h3.mono s1).rep upd_same⟩
theorem Rdy.mono (r : Rdy K κ G σ γ B t v) (h : Same G G') (hM : ∀ i : Nat, i ∈ B → γ'[i]? = γ[i]?) (hB : ∀ i, i ∈ B → i ∈ B') : Rdy K κ G' σ γ' B' t v := by
  rcases r with r | ⟨i, b, k, g, e⟩
  · exact .inl (r.mono h)
  · exact .inr ⟨i, hB i b, k, by rw [hM i b]; exact g, e⟩
theorem Rdy.list {ts : List T} (r : Rdy K κ G σ γ B (.lst ts) v) (S : Sta K N G κ σ H γ) : ∃ a vs, v = .ref a ∧ H a = some (.lst vs) ∧ Reps K G ts vs := by
  rcases r with r | ⟨i, b, k, g, e⟩
  · unfold Rep at r
    obtain ⟨a, vs, e, s, q⟩ := r
    exact ⟨a, vs, e, S.le _ _ s, q⟩
  · obtain ⟨a, o, e1, _, e3, ⟨vs, rfl, q⟩, _⟩ := S.own i _ k g
    rw [e] at e1
    cases e1
    exact ⟨a, vs, rfl, e3, q⟩
theorem Rdy.older {ts : List T} (r : Rdy K κ G σ γ B (.old ts) v) (S : Sta K N G κ σ H γ) : ∃ a vs, v = .ref a ∧ SqL K H a vs ∧ Reps K G ts vs := by
  rcases r with r | ⟨i, b, k, g, e⟩
  · unfold Rep at r
    obtain ⟨a, vs, e, s, q⟩ := r
    exact ⟨a, vs, e, S.le.seq s, q⟩
  · obtain ⟨a, o, e1, _, e3, q, _⟩ := S.own i _ k g
    exact q.elim
theorem Rdy.dict {ks ts : List T} (r : Rdy K κ G σ γ B (.dct ks ts) v) (S : Sta K N G κ σ H γ) : ∃ a o, v = .ref a ∧ H a = some o ∧ Ho K G o (.dct ks ts) := by
  rcases r with r | ⟨i, b, k, g, e⟩
  · unfold Rep at r
    obtain ⟨a, e, ⟨kvs, s, q⟩ | ⟨kvs, s, q⟩⟩ := r
    · exact ⟨a, _, e, S.le _ _ s, .inl ⟨kvs, rfl, q⟩⟩
    · exact ⟨a, _, e, S.le _ _ s, .inr ⟨kvs, rfl, q⟩⟩
  · obtain ⟨a, o, e1, _, e3, q, _⟩ := S.own i _ k g
    rw [e] at e1
    cases e1
    exact ⟨a, o, rfl, e3, q⟩
theorem Same.tup {a : Addr} {xs : List V} (e : Same H H') (h : SqT K H a xs) : SqT K H' a xs := by
  rcases h with (h | ⟨o, h⟩) | h
  · exact .inl (.inl (e _ _ h))
  · exact .inl (.inr ⟨o, e _ _ h⟩)
  · exact .inr h
theorem Rdy.tuple {ts : List T} (r : Rdy K κ G σ γ B (.tup ts) v) (S : Sta K N G κ σ H γ) : ∃ a vs, v = .ref a ∧ SqT K H a vs ∧ Reps K G ts vs := by
  rcases r with r | ⟨i, b, k, g, e⟩
  · unfold Rep at r
    obtain ⟨a, vs, e, s, q⟩ := r
    exact ⟨a, vs, e, Same.tup S.le s, q⟩
  · obtain ⟨a, o, e1, _, e3, q, _⟩ := S.own i _ k g
    exact q.elim
theorem Rdy.int {i : Int} (r : Rdy K κ G σ γ B (.int i) v) (S : Sta K N G κ σ H γ) : v = .int i := by
  rcases r with r | ⟨i, b, k, g, e⟩
  · unfold Rep at r; exact r
  · obtain ⟨a, o, e1, _, e3, q, _⟩ := S.own i _ k g
    exact q.elim
theorem Rdy.bl {i : Bool} (r : Rdy K κ G σ γ B (.bl i) v) (S : Sta K N G κ σ H γ) : v = .bl i := by
  rcases r with r | ⟨i, b, k, g, e⟩
  · unfold Rep at r; exact r
  · obtain ⟨a, o, e1, _, e3, q, _⟩ := S.own i _ k g
    exact q.elim
theorem Rdy.str {i : Str} (r : Rdy K κ G σ γ B (.str i) v) (S : Sta K N G κ σ H γ) : v = .str i := by
  rcases r with r | ⟨i, b, k, g, e⟩
  · unfold Rep at r; exact r
  · obtain ⟨a, o, e1, _, e3, q, _⟩ := S.own i _ k g
    exact q.elim
theorem Rdy.non (r : Rdy K κ G σ γ B .non v) (S : Sta K N G κ σ H γ) : v = .non := by
  rcases r with r | ⟨i, b, k, g, e⟩
  · unfold Rep at r; exact r
  · obtain ⟨a, o, e1, _, e3, q, _⟩ := S.own i _ k g
    exact q.elim
theorem Rdy.rep (r : Rdy K κ G σ γ [] t v) : Rep K G t v := by
  rcases r with r | ⟨i, b, _⟩
  · exact r
  · cases b
end

/-! ### the judgements: what a piece of the program reckons -/
abbrev Ex := En → Option (T × En)
abbrev Tx := En → Option (Bool × En)
abbrev Ax := En → Option (List T × En)
def Keeps (M : List Nat) (γ γ' : En) : Prop := ∀ i : Nat, i ∉ M → γ'[i]? = γ[i]?
theorem Keeps.refl (M : List Nat) (γ : En) : Keeps M γ γ := fun _ _ => rfl
theorem Keeps.trans {M M' : List Nat} {γ γ1 γ2 : En} (a : Keeps M γ γ1) (b : Keeps M' γ1 γ2) : Keeps (M ++ M') γ γ2 := fun i h => by
  rw [List.mem_append, not_or] at h
  rw [b i h.2, a i h.1]
def cE (K : PySem.W.Frag) (m : Bool) (B M : List Nat) (κ : List Bool) (f : Ex) : TE := fun σ H Q => ∃ N G γ r γ', Sta K N G κ σ H γ ∧ f γ = some (r, γ') ∧
  ∀ v G' H', Same G G' → Sta K N G' κ σ H' γ' → Keeps M γ γ' → Rsl K m N κ G' σ H' γ' B r v → Q v H'
def cT (K : PySem.W.Frag) (M : List Nat) (κ : List Bool) (f : Tx) : TT := fun σ H Q => ∃ N G γ r γ', Sta K N G κ σ H γ ∧ f γ = some (r, γ') ∧
  ∀ G' H', Same G G' → Sta K N G' κ σ H' γ' → Keeps M γ γ' → Q r H'
inductive Rdys (K : PySem.W.Frag) (κ : List Bool) (G : Hp) (σ : L2.St) (γ : En) (B : List Nat) : List T → List V → Prop
  | nil : Rdys K κ G σ γ B [] []
  | cons {t v ts vs} : Rdy K κ G σ γ B t v → Rdys K κ G σ γ B ts vs → Rdys K κ G σ γ B (t :: ts) (v :: vs)
def cA (K : PySem.W.Frag) (B M : List Nat) (κ : List Bool) (f : Ax) : TA := fun σ H Q => ∃ N G γ r γ', Sta K N G κ σ H γ ∧ f γ = some (r, γ') ∧
  ∀ vs G' H', Same G G' → Sta K N G' κ σ H' γ' → Keeps M γ γ' → Rdys K κ G' σ γ' B r vs → Q vs H'
/-- an expression: m new or not, B the owned slots that it may hand on, M those that it may change -/
abbrev SX (X : Cx) (e : Expr) (m : Bool) (B M : List Nat) (κ : List Bool) (f : Ex) : Prop := PE X e (cE X.K m B M κ f)
abbrev ST (X : Cx) (e : Expr) (M : List Nat) (κ : List Bool) (f : Tx) : Prop := PT X e (cT X.K M κ f)
abbrev SW (X : Cx) (e : Expr) (M : List Nat) (κ : List Bool) (f : Tx) : Prop := PW X e (cT X.K M κ f)
abbrev SA (X : Cx) (es : List Expr) (B M : List Nat) (κ : List Bool) (f : Ax) : Prop := PA X es (cA X.K B M κ f)

theorem PE.weak {X : Cx} {e : Expr} {t t' : TE} (h : PE X e t) (w : ∀ σ H Q, t' σ H Q → t σ H Q) : PE X e t' := ⟨fun pins s σ H Q I q => h.run pins s σ H Q I (w σ H Q q)⟩
theorem PT.weak {X : Cx} {e : Expr} {t t' : TT} (h : PT X e t) (w : ∀ σ H Q, t' σ H Q → t σ H Q) : PT X e t' := ⟨fun pins s σ H Q I q => h.run pins s σ H Q I (w σ H Q q)⟩
theorem PW.weak {X : Cx} {e : Expr} {t t' : TT} (h : PW X e t) (w : ∀ σ H Q, t' σ H Q → t σ H Q) : PW X e t' := ⟨fun wh pins s σ H Q I q => h.run wh pins s σ H Q I (w σ H Q q)⟩
theorem PA.weak {X : Cx} {e : List Expr} {t t' : TA} (h : PA X e t) (w : ∀ σ H Q, t' σ H Q → t σ H Q) : PA X e t' := ⟨fun pos pins s σ H Q I q => h.run pos pins s σ H Q I (w σ H Q q)⟩
theorem PS.weak {X : Cx} {e : Stmt} {t t' : TS} (h : PS X e t) (w : ∀ D σ H, t' D σ H → t D σ H) : PS X e t' := ⟨fun pins s σ H Q I q => h.run pins s σ H Q I (w Q σ H q)⟩
theorem PSs.weak {X : Cx} {e : List Stmt} {t t' : TS} (h : PSs X e t) (w : ∀ D σ H, t' D σ H → t D σ H) : PSs X e t' := ⟨fun pins s σ H Q I q => h.run pins s σ H Q I (w Q σ H q)⟩
theorem PG.weak {X : Cx} {e : Expr} {t t' : TG} (h : PG X e t) (w : ∀ v σ H Q, t' v σ H Q → t v σ H Q) : PG X e t' := ⟨fun pins s σ H v u Q I r q => h.run pins s σ H v u Q I r (w v σ H Q q)⟩
theorem PI.weak {X : Cx} {tg e : Expr} {t t' : TI} (h : PI X tg e t) (w : ∀ σ H Q, t' σ H Q → t σ H Q) : PI X tg e t' := ⟨fun pins s σ H Q I q => h.run pins s σ H Q I (w σ H Q q)⟩
end Tw

namespace Tw
open PySem PySem.Spec PyProof.Rows L2

/-! ### what the operations reckon -/
def okMul (i j : Int) : Bool := decide (i.natAbs < 2 ^ 64) || decide (j.natAbs < 2 ^ 64) || decide (i.natAbs.log2 + j.natAbs.log2 < 134000000)
def okDiv (j : Int) : Bool := decide (j ≠ 0) && decide (j.natAbs.log2 < 9000)
def gAdd : T → T → Option T
  | .int i, .int j => some (.int (i + j))
  | .str x, .str y => if x.length + y.length ≤ sizeLine then some (.str (x ++ y)) else none
  | .lst x, .lst y => if x.length + y.length ≤ sizeLine then some (.lst (x ++ y)) else none
  | .tup x, .tup y => if x.length + y.length ≤ sizeLine then some (.tup (x ++ y)) else none
  | _, _ => none
def gSub : T → T → Option T
  | .int i, .int j => some (.int (i - j))
  | _, _ => none
def gMul : T → T → Option T
  | .int i, .int j => if okMul i j then some (.int (i * j)) else none
  | .lst x, .int k => if -(2 ^ 63) ≤ k ∧ k < 2 ^ 63 ∧ x.length * k.toNat ≤ sizeLine then some (.lst (List.replicate k.toNat x).flatten) else none
  | _, _ => none
def gMod : T → T → Option T
  | .int i, .int j => if j ≠ 0 then some (.int (i.fmod j)) else none
  | _, _ => none
def gDiv : T → T → Option T
  | .int i, .int j => if okDiv j then some (.int (i.fdiv j)) else none
  | _, _ => none
def gPow : T → T → Option T
  | .int i, .int j => if 0 ≤ j ∧ j ≤ 1000000 ∧ i.natAbs < 2 ^ 64 then some (.int (i ^ j.toNat)) else none
  | _, _ => none
def gLt : T → T → Option T
  | .int i, .int j => some (.bl (decide (i < j)))
  | _, _ => none
def gLe : T → T → Option T
  | .int i, .int j => some (.bl (decide (i ≤ j)))
  | _, _ => none
def gGt : T → T → Option T
  | .int i, .int j => some (.bl (decide (j < i)))
  | _, _ => none
def gGe : T → T → Option T
  | .int i, .int j => some (.bl (decide (j ≤ i)))
  | _, _ => none
/-- data of a bounded depth -/
def okN : Nat → T → Bool
  | _, .non => true
  | _, .bl _ => true
  | _, .int _ => true
  | _, .str x => PySem.PyData.strOk x
  | n + 1, .lst ts => ts.all (okN n)
  | n + 1, .tup ts => ts.all (okN n)
  | _, _ => false
mutual
def toD : T → PyData
  | .non => .none
  | .bl b => .bool b
  | .int i => .int i
  | .str x => .str x
  | .tup ts => .tuple (toDs ts)
  | .lst ts => .list (toDs ts)
  | .dct _ _ => .dict []
  | .old _ => .dict []
def toDs : List T → List PyData
  | [] => []
  | t :: ts => toD t :: toDs ts
end
def eqT (a b : T) : Bool := PyData.eqv (toD a) (toD b)
def okT (t : T) : Bool := okN 60 t
def gEq (a b : T) : Option T := if okT a && okT b then some (.bl (eqT a b)) else none
def gNe (a b : T) : Option T := if okT a && okT b then some (.bl (!eqT a b)) else none
def isT : T → T → Option Bool
  | .non, .non => some true
  | _, .non => some false
  | .bl a, .bl b => some (a == b)
  | _, .bl _ => some false
  | _, _ => none
def gIs (a b : T) : Option T := (isT a b).map T.bl
def gIsNot (a b : T) : Option T := (isT a b).map fun k => T.bl (!k)
def gNeg : T → Option T
  | .int i => some (.int (-i))
  | _ => none

/-! ### the combinators -/
def eVar (i : Nat) : Ex := fun γ => match γ[i]? with
  | some (some t) => some (t, γ)
  | _ => none
def eLit (t : T) : Ex := fun γ => some (t, γ)
def eBin (g : T → T → Option T) (a b : Ex) : Ex := fun γ => (a γ).bind fun p => (b p.2).bind fun q => (g p.1 q.1).map fun r => (r, q.2)
def eUn (g : T → Option T) (a : Ex) : Ex := fun γ => (a γ).bind fun p => (g p.1).map fun r => (r, p.2)
def eChain (g g' : T → T → Option T) (a b c : Ex) : Ex := fun γ => (a γ).bind fun p => (b p.2).bind fun q => match g p.1 q.1 with
  | some (.bl true) => (c q.2).bind fun r => (g' q.1 r.1).map fun z => (z, r.2)
  | some (.bl false) => some (.bl false, q.2)
  | _ => none
def tOf (f : Ex) : Tx := fun γ => match f γ with
  | some (.bl b, γ') => some (b, γ')
  | _ => none
def eOf (f : Tx) : Ex := fun γ => (f γ).map fun p => (.bl p.1, p.2)
def eNot (f : Ex) : Ex := fun γ => match f γ with
  | some (.bl b, γ') => some (.bl (!b), γ')
  | _ => none
def eAnd (f g : Ex) : Ex := fun γ => match f γ with
  | some (.bl true, γ') => g γ'
  | some (.bl false, γ') => some (.bl false, γ')
  | _ => none
def eOr (f g : Ex) : Ex := fun γ => match f γ with
  | some (.bl false, γ') => g γ'
  | some (.bl true, γ') => some (.bl true, γ')
  | _ => none
def tNotT (f : Tx) : Tx := fun γ => (f γ).map fun p => (!p.1, p.2)
def tAndT (f g : Tx) : Tx := fun γ => (f γ).bind fun p => if p.1 then g p.2 else some (false, p.2)
def tOrT (f g : Tx) : Tx := fun γ => (f γ).bind fun p => if p.1 then some (true, p.2) else g p.2
def eIf (c : Tx) (a b : Ex) : Ex := fun γ => (c γ).bind fun p => if p.1 then a p.2 else b p.2
def truT : T → Option Bool
  | .non => some false
  | .bl b => some b
  | .int i => some (i != 0)
  | .str y => if y.length ≤ sizeLine then some ((y.length : Int) != 0) else none
  | .lst ts => some (!ts.isEmpty)
  | .old ts => some (!ts.isEmpty)
  | .tup ts => some (!ts.isEmpty)
  | .dct _ _ => none
def tTru (f : Ex) : Tx := fun γ => (f γ).bind fun p => (truT p.1).map fun k => (k, p.2)
def aNil : Ax := fun γ => some ([], γ)
def aCons (f : Ex) (g : Ax) : Ax := fun γ => (f γ).bind fun p => (g p.2).map fun q => (p.1 :: q.1, q.2)
def eCall (g : List T → Option T) (a : Ax) : Ex := fun γ => (a γ).bind fun p => (g p.1).map fun r => (r, p.2)

section
variable {K : PySem.W.Frag} {N : Nt} {G G' H H' : Hp} {κ : List Bool} {σ : L2.St} {γ γ' : En} {B B' : List Nat} {t u : T} {v x : V}

/-! ### atoms and references -/
def atV : T → Option V
  | .non => some .non
  | .bl b => some (.bl b)
  | .int i => some (.int i)
  | .str x => some (.str x)
  | _ => none
theorem Rdy.atom (r : Rdy K κ G σ γ B t v) (S : Sta K N G κ σ H γ) : match atV t with | some w => v = w | none => ∃ a, v = .ref a := by
  cases t with
  | non => exact r.non S
  | bl _ => exact r.bl S
  | int _ => exact r.int S
  | str _ => exact r.str S
  | tup _ => obtain ⟨a, _, e, _⟩ := r.tuple S; exact ⟨a, e⟩
  | lst _ => obtain ⟨a, _, e, _⟩ := r.list S; exact ⟨a, e⟩
  | old _ => obtain ⟨a, _, e, _⟩ := r.older S; exact ⟨a, e⟩
  | dct _ _ => obtain ⟨a, _, e, _⟩ := r.dict S; exact ⟨a, e⟩
theorem Rdy.tupRep {ts : List T} (r : Rdy K κ G σ γ B (.tup ts) v) (S : Sta K N G κ σ H γ) : Rep K G (.tup ts) v := by
  rcases r with r | ⟨i, b, k, g, e⟩
  · exact r
  · obtain ⟨a, o, e1, _, e3, q, _⟩ := S.own i _ k g
    exact q.elim
theorem Rep.int {i : Int} : Rep K G (.int i) (.int i) := by unfold Rep; rfl
theorem Rep.bl {i : Bool} : Rep K G (.bl i) (.bl i) := by unfold Rep; rfl
theorem Rep.str {i : Str} : Rep K G (.str i) (.str i) := by unfold Rep; rfl
theorem Rep.non : Rep K G .non .non := by unfold Rep; rfl
theorem Rep.rdy (r : Rep K G t v) : Rdy K κ G σ γ B t v := .inl r
theorem Rsl.old (r : Rep K G t v) : Rsl K false N κ G σ H γ B t v := by unfold Rsl; rw [if_neg (by decide)]; exact .inl r
theorem Rsl.new (r : Fre K N κ G σ H γ t v) : Rsl K true N κ G σ H γ B t v := by unfold Rsl; rw [if_pos rfl]; exact r
theorem Rsl.rdy (r : Rsl K false N κ G σ H γ B t v) : Rdy K κ G σ γ B t v := by unfold Rsl at r; rw [if_neg (by decide)] at r; exact r
theorem Rsl.fre (r : Rsl K true N κ G σ H γ B t v) : Fre K N κ G σ H γ t v := by unfold Rsl at r; rw [if_pos rfl] at r; exact r
/-- a new tuple is laid and lasts -/
theorem Sta.tupled (S : Sta K N G κ σ H γ) {p : Addr} {ts : List T} {vs : List V} (hp : H p = none) (r : Reps K G ts vs) :
    ∃ G', Same G G' ∧ Sta K N G' κ σ (upd H p (.tup vs)) γ ∧ Rep K G' (.tup ts) (.ref p) := by
  obtain ⟨h1, h2, h3⟩ := S.fresh hp
  have S1 : Sta K N G κ σ (upd H p (.tup vs)) γ := S.laid hp
  obtain ⟨S2, s2⟩ := S1.lasts h1 upd_same h2 fun i u k g e => by
    obtain ⟨a, o', e1, _, e3, _⟩ := S.own i u k g
    rw [e] at e1
    cases e1
    rw [hp] at e3
    cases e3
  refine ⟨_, s2, S2, ?_⟩
  unfold Rep
  exact ⟨p, vs, rfl, .inl (.inl upd_same), r.mono s2⟩
/-- a new list -/
theorem Sta.listed (S : Sta K N G κ σ H γ) {p : Addr} {ts : List T} {vs : List V} (hp : H p = none) (r : Reps K G ts vs) :
    Sta K N G κ σ (upd H p (.lst vs)) γ ∧ Fre K N κ G σ (upd H p (.lst vs)) γ (.lst ts) (.ref p) := ⟨S.laid hp, S.fre hp ⟨vs, rfl, r⟩⟩
theorem Sta.listedL (S : Sta K N G κ σ H γ) {p : Addr} {ts : List T} {vs : List V} (hp : H p = none) (r : Reps K G ts vs) :
    ∃ G', Same G G' ∧ Sta K N G' κ σ (upd H p (.lst vs)) γ ∧ Rep K G' (.lst ts) (.ref p) := by
  obtain ⟨S1, f⟩ := S.listed hp r
  exact f.lasts S1

/-! ### rules by values -/
def Op2 (K : PySem.W.Frag) (r : R2) (m : Bool) (g : T → T → Option T) : Prop :=
  ∀ (N : Nt) (G : Hp) (κ : List Bool) (σ : L2.St) (H : Hp) (γ : En) (B B' : List Nat) (tx ty tz : T) (x y : V), Sta K N G κ σ H γ → Rdy K κ G σ γ B tx x → Rdy K κ G σ γ B' ty y → g tx ty = some tz →
    ∀ Q : VK, (∀ v G' H', Same G G' → Sta K N G' κ σ H' γ → Rsl K m N κ G' σ H' γ [] tz v → Q v H') → r x y H Q
def Op1 (K : PySem.W.Frag) (r : V → Hp → VK → Prop) (m : Bool) (g : T → Option T) : Prop :=
  ∀ (N : Nt) (G : Hp) (κ : List Bool) (σ : L2.St) (H : Hp) (γ : En) (B : List Nat) (tx tz : T) (x : V), Sta K N G κ σ H γ → Rdy K κ G σ γ B tx x → g tx = some tz →
    ∀ Q : VK, (∀ v G' H', Same G G' → Sta K N G' κ σ H' γ → Rsl K m N κ G' σ H' γ [] tz v → Q v H') → r x H Q
def FnT (K : PySem.W.Frag) (r : List V → Hp → VK → Prop) (m : Bool) (g : List T → Option T) : Prop :=
  ∀ (N : Nt) (G : Hp) (κ : List Bool) (σ : L2.St) (H : Hp) (γ : En) (B : List Nat) (ts : List T) (tz : T) (xs : List V), Sta K N G κ σ H γ → Rdys K κ G σ γ B ts xs → g ts = some tz →
    ∀ Q : VK, (∀ v G' H', Same G G' → Sta K N G' κ σ H' γ → Rsl K m N κ G' σ H' γ [] tz v → Q v H') → r xs H Q
end

section
variable {X : Cx} {K : PySem.W.Frag}
theorem op_mulX : OpR X (binaryOp .Mult) (rI (fun i j => okMul i j = true) fun i j => .int (i * j)) := opI fun i j _ _ _ _ _ hc q => by
  refine mul_int q ?_
  unfold okMul at hc
  simp only [Bool.or_eq_true, decide_eq_true_eq] at hc
  rcases hc with (hc | hc) | hc
  · exact .of_left (intBits_le_64 (by omega) (by omega))
  · exact .of_right (intBits_le_64 (by omega) (by omega))
  · have b : ∀ x : Int, Builtin.Int.intBits x ≤ x.natAbs.log2 + 1 := fun x => by
      unfold Builtin.Int.intBits
      split <;> omega
    have h1 := b i
    have h2 := b j
    have e : bitsLine = 134217728 := by decide
    unfold IntMulOk
    intro z
    rw [Bool.and_eq_true] at z
    have z2 := z.2
    unfold Builtin.Int.intTooBig at z2
    have z3 := of_decide_eq_true z2
    rw [e] at z3
    omega
theorem op_divX : OpR X (binaryOp .FloorDiv) (rI (fun _ j => okDiv j = true) fun i j => .int (i.fdiv j)) := opI fun i j _ _ _ _ _ hc q => by
  unfold okDiv at hc
  simp only [Bool.and_eq_true, decide_eq_true_eq] at hc
  exact floordiv_int hc.1 q (.inl (PyProof.noPylong_of_log2 hc.2))
/-- is of anything and a bool or None -/
def rIsP (neg : Bool) : R2 := fun x y H Q => (y = .non ∨ ∃ b, y = .bl b) ∧ Q (.bl (if neg then !decide (x = y) else decide (x = y))) H
theorem relV_bool {x : V} {v : Value} {b : Bool} (r : RelV x v) : (v == Value.bool b) = decide (x = .bl b) := by
  cases x with
  | non => cases r; rfl
  | bl c => cases r; cases b <;> cases c <;> rfl
  | int _ => obtain ⟨t, rfl⟩ := r; rfl
  | str _ => obtain ⟨t, rfl⟩ := r; rfl
  | byt _ => obtain ⟨t, rfl⟩ := r; rfl
  | flt _ => obtain ⟨t, rfl⟩ := r; rfl
  | ref _ => cases r; rfl
  | ty _ => cases r; rfl
theorem plain_bool {x : V} {v : Value} {b : Bool} (r : RelV x v) : plainIs v (.bool b) = true := by
  cases x with
  | non => cases r; rfl
  | bl c => cases r; rfl
  | int _ => obtain ⟨t, rfl⟩ := r; rfl
  | str _ => obtain ⟨t, rfl⟩ := r; rfl
  | byt _ => obtain ⟨t, rfl⟩ := r; rfl
  | flt _ => obtain ⟨t, rfl⟩ := r; rfl
  | ref _ => cases r; rfl
  | ty _ => cases r; rfl
theorem op_isP : OpR X (compareOp .Is) (rIsP false) := by
  intro pins s σ H x y v u Q I rx ry h
  obtain ⟨rfl | ⟨b, rfl⟩, q⟩ := h
  · cases (show u = Value.none from ry)
    exact is_none_gen ⟨.bl _, H, I, by rw [rx.none_iff]; rfl, q⟩
  · cases (show u = Value.bool b from ry)
    exact wpAny_is_plain (plain_bool rx) ⟨.bl _, H, I, by rw [relV_bool rx]; rfl, q⟩
theorem op_isNotP : OpR X (compareOp .IsNot) (rIsP true) := by
  intro pins s σ H x y v u Q I rx ry h
  obtain ⟨rfl | ⟨b, rfl⟩, q⟩ := h
  · cases (show u = Value.none from ry)
    exact isnot_none_gen ⟨.bl _, H, I, by rw [rx.none_iff]; rfl, q⟩
  · cases (show u = Value.bool b from ry)
    exact wpAny_isNot_plain (plain_bool rx) ⟨.bl _, H, I, by rw [relV_bool rx]; rfl, q⟩

theorem o2_ints {C : Int → Int → Prop} {f : Int → Int → V} {g : T → T → Option T} (h : ∀ a b t, g a b = some t → ∃ i j, a = .int i ∧ b = .int j ∧ C i j ∧ ∀ G, Rep K G t (f i j)) : Op2 K (rI C f) false g := by
  intro N G κ σ H γ B B' tx ty tz x y S rx ry e Q q
  obtain ⟨i, j, rfl, rfl, c, r⟩ := h _ _ _ e
  exact ⟨i, j, rx.int S, ry.int S, c, q _ G H (Same.refl _) S (.old (r G))⟩
theorem o2_ints0 {f : Int → Int → V} {g : T → T → Option T} (h : ∀ a b t, g a b = some t → ∃ i j, a = .int i ∧ b = .int j ∧ ∀ G, Rep K G t (f i j)) : Op2 K (rI0 f) false g := by
  intro N G κ σ H γ B B' tx ty tz x y S rx ry e Q q
  obtain ⟨i, j, rfl, rfl, r⟩ := h _ _ _ e
  exact ⟨i, j, rx.int S, ry.int S, q _ G H (Same.refl _) S (.old (r G))⟩
theorem o2_sub : Op2 K (rI0 fun i j => .int (i - j)) false gSub := o2_ints0 fun a b t e => by
  unfold gSub at e
  split at e <;> cases e
  exact ⟨_, _, rfl, rfl, fun G => Rep.int⟩
theorem o2_mod : Op2 K (rI (fun _ j => j ≠ 0) fun i j => .int (i.fmod j)) false gMod := o2_ints fun a b t e => by
  unfold gMod at e
  split at e
  · split at e <;> cases e
    exact ⟨_, _, rfl, rfl, by assumption, fun G => Rep.int⟩
  · cases e
theorem o2_div : Op2 K (rI (fun _ j => okDiv j = true) fun i j => .int (i.fdiv j)) false gDiv := o2_ints fun a b t e => by
  unfold gDiv at e
  split at e
  · split at e <;> cases e
    exact ⟨_, _, rfl, rfl, by assumption, fun G => Rep.int⟩
  · cases e
theorem o2_pow : Op2 K (rI CPow fun i j => .int (i ^ j.toNat)) false gPow := o2_ints fun a b t e => by
  unfold gPow at e
  split at e
  · split at e <;> cases e
    exact ⟨_, _, rfl, rfl, by assumption, fun G => Rep.int⟩
  · cases e
theorem o2_lt : Op2 K (rI0 fun i j => .bl (decide (i < j))) false gLt := o2_ints0 fun a b t e => by
  unfold gLt at e
  split at e <;> cases e
  exact ⟨_, _, rfl, rfl, fun G => Rep.bl⟩
theorem o2_le : Op2 K (rI0 fun i j => .bl (decide (i ≤ j))) false gLe := o2_ints0 fun a b t e => by
  unfold gLe at e
  split at e <;> cases e
  exact ⟨_, _, rfl, rfl, fun G => Rep.bl⟩
theorem o2_gt : Op2 K (rI0 fun i j => .bl (decide (j < i))) false gGt := o2_ints0 fun a b t e => by
  unfold gGt at e
  split at e <;> cases e
  exact ⟨_, _, rfl, rfl, fun G => Rep.bl⟩
theorem o2_ge : Op2 K (rI0 fun i j => .bl (decide (j ≤ i))) false gGe := o2_ints0 fun a b t e => by
  unfold gGe at e
  split at e <;> cases e
  exact ⟨_, _, rfl, rfl, fun G => Rep.bl⟩
def rAddX (K : PySem.W.Frag) : R2 := fun x y H Q => (∃ i j, x = .int i ∧ y = .int j ∧ Q (.int (i + j)) H) ∨ (∃ i j, x = .str i ∧ y = .str j ∧ i.length + j.length ≤ sizeLine ∧ Q (.str (i ++ j)) H) ∨ rCat x y H Q ∨ rCatA K x y H Q
theorem op_addX : OpR X (binaryOp .Add) (rAddX X.K) := OpR.or op_add (OpR.or op_add_str (OpR.or op_cat op_catA))
theorem o2_add : Op2 K (rAddX K) false gAdd := by
  intro N G κ σ H γ B B' tx ty tz x y S rx ry e Q q
  unfold gAdd at e
  split at e
  · cases e
    exact .inl ⟨_, _, rx.int S, ry.int S, q _ G H (Same.refl _) S (.old .int)⟩
  · split at e <;> cases e
    exact .inr (.inl ⟨_, _, rx.str S, ry.str S, by assumption, q _ G H (Same.refl _) S (.old .str)⟩)
  · split at e <;> cases e
    obtain ⟨a, vs, rfl, h1, r1⟩ := rx.list S
    obtain ⟨b, ws, rfl, h2, r2⟩ := ry.list S
    refine .inr (.inr (.inl ⟨a, b, vs, ws, rfl, rfl, h1, h2, by rw [r1.length, r2.length]; assumption, fun p hp => ?_⟩))
    obtain ⟨G', s, S', r⟩ := S.listedL hp (r1.append r2)
    exact q _ G' _ s S' (.old r)
  · split at e <;> cases e
    obtain ⟨a, vs, rfl, h1, r1⟩ := rx.tuple S
    obtain ⟨b, ws, rfl, h2, r2⟩ := ry.tuple S
    have k1 := Rdy.tupRep rx S
    have k2 := Rdy.tupRep ry S
    refine .inr (.inr (.inr ⟨a, b, vs, ws, rfl, rfl, h1, h2, by rw [r1.length, r2.length]; assumption, fun z => ?_, fun z z2 => ?_, fun z z2 p hp => ?_⟩))
    · have z' := r1.length
      rw [z] at z'
      have z3 := List.eq_nil_of_length_eq_zero z'.symm
      rw [z3] at q
      exact q _ G H (Same.refl _) S (.old k2)
    · have z' := r2.length
      rw [z2] at z'
      have z3 := List.eq_nil_of_length_eq_zero z'.symm
      rw [z3, List.append_nil] at q
      exact q _ G H (Same.refl _) S (.old k1)
    · obtain ⟨G', s, S', r⟩ := S.tupled hp (r1.append r2)
      exact q _ G' _ s S' (.old r)
  · cases e
/-- a new list by + -/
def gCat : T → T → Option T
  | .lst x, .lst y => if x.length + y.length ≤ sizeLine then some (.lst (x ++ y)) else none
  | _, _ => none
theorem o2_cat : Op2 K rCat true gCat := by
  intro N G κ σ H γ B B' tx ty tz x y S rx ry e Q q
  unfold gCat at e
  split at e
  · split at e <;> cases e
    obtain ⟨a, vs, rfl, h1, r1⟩ := rx.list S
    obtain ⟨b, ws, rfl, h2, r2⟩ := ry.list S
    refine ⟨a, b, vs, ws, rfl, rfl, h1, h2, by rw [r1.length, r2.length]; assumption, fun p hp => ?_⟩
    obtain ⟨S', f⟩ := S.listed hp (r1.append r2)
    exact q _ G _ (Same.refl _) S' (.new f)
  · cases e
theorem o2_mul : Op2 K (fun x y H Q => rI (fun i j => okMul i j = true) (fun i j => .int (i * j)) x y H Q ∨ rRep x y H Q) false gMul := by
  intro N G κ σ H γ B B' tx ty tz x y S rx ry e Q q
  unfold gMul at e
  split at e
  · split at e <;> cases e
    exact .inl ⟨_, _, rx.int S, ry.int S, by assumption, q _ G H (Same.refl _) S (.old .int)⟩
  · split at e <;> cases e
    rename_i hz
    obtain ⟨a, vs, rfl, h1, r1⟩ := rx.list S
    refine .inr ⟨a, _, vs, rfl, ry.int S, h1, hz.1, hz.2.1, by rw [r1.length]; exact hz.2.2, fun p hp => ?_⟩
    obtain ⟨G', s, S', r⟩ := S.listedL hp (r1.rep _)
    exact q _ G' _ s S' (.old r)
  · cases e
def gRep : T → T → Option T
  | .lst x, .int k => if -(2 ^ 63) ≤ k ∧ k < 2 ^ 63 ∧ x.length * k.toNat ≤ sizeLine then some (.lst (List.replicate k.toNat x).flatten) else none
  | _, _ => none
theorem o2_rep : Op2 K rRep true gRep := by
  intro N G κ σ H γ B B' tx ty tz x y S rx ry e Q q
  unfold gRep at e
  split at e
  · split at e <;> cases e
    rename_i hz
    obtain ⟨a, vs, rfl, h1, r1⟩ := rx.list S
    refine ⟨a, _, vs, rfl, ry.int S, h1, hz.1, hz.2.1, by rw [r1.length]; exact hz.2.2, fun p hp => ?_⟩
    obtain ⟨S', f⟩ := S.listed hp (r1.rep _)
    exact q _ G _ (Same.refl _) S' (.new f)
  · cases e
theorem op_mulY : OpR X (binaryOp .Mult) (fun x y H Q => rI (fun i j => okMul i j = true) (fun i j => .int (i * j)) x y H Q ∨ rRep x y H Q) := OpR.or op_mulX op_rep
theorem isT_of {N : Nt} {G H : Hp} {κ : List Bool} {σ : L2.St} {γ : En} {B B' : List Nat} {tx ty : T} {x y : V} {k : Bool} (S : Sta K N G κ σ H γ) (rx : Rdy K κ G σ γ B tx x) (ry : Rdy K κ G σ γ B' ty y)
    (e : isT tx ty = some k) : (y = .non ∨ ∃ b, y = .bl b) ∧ decide (x = y) = k := by
  have hx := rx.atom S
  cases ty with
  | non =>
    have ey : y = .non := ry.non S
    subst ey
    refine ⟨.inl rfl, ?_⟩
    cases tx <;> simp only [atV] at hx <;> simp only [isT, Option.some.injEq] at e <;> first | (obtain ⟨a, rfl⟩ := hx; rw [← e]; exact decide_eq_false (fun z => nomatch z)) | (rw [hx, ← e]; first | exact decide_eq_true rfl | exact decide_eq_false (fun z => nomatch z))
  | bl b =>
    have ey : y = .bl b := ry.bl S
    subst ey
    refine ⟨.inr ⟨b, rfl⟩, ?_⟩
    cases tx <;> simp only [atV] at hx <;> simp only [isT, Option.some.injEq] at e <;> first | (obtain ⟨a, rfl⟩ := hx; rw [← e]; exact decide_eq_false (fun z => nomatch z)) | (rw [hx, ← e]; first | exact decide_eq_false (fun z => nomatch z) | (rename_i c; cases b <;> cases c <;> rfl))
  | int _ => cases tx <;> simp [isT] at e
  | str _ => cases tx <;> simp [isT] at e
  | tup _ => cases tx <;> simp [isT] at e
  | lst _ => cases tx <;> simp [isT] at e
  | old _ => cases tx <;> simp [isT] at e
  | dct _ _ => cases tx <;> simp [isT] at e
theorem o2_is : Op2 K (rIsP false) false gIs := by
  intro N G κ σ H γ B B' tx ty tz x y S rx ry e Q q
  unfold gIs at e
  obtain ⟨k, e1, rfl⟩ := Option.map_eq_some_iff.mp e
  obtain ⟨h1, h2⟩ := isT_of S rx ry e1
  refine ⟨h1, ?_⟩
  rw [if_neg (by decide), h2]
  exact q _ G H (Same.refl _) S (.old .bl)
theorem o2_isNot : Op2 K (rIsP true) false gIsNot := by
  intro N G κ σ H γ B B' tx ty tz x y S rx ry e Q q
  unfold gIsNot at e
  obtain ⟨k, e1, rfl⟩ := Option.map_eq_some_iff.mp e
  obtain ⟨h1, h2⟩ := isT_of S rx ry e1
  refine ⟨h1, ?_⟩
  rw [if_pos rfl, h2]
  exact q _ G H (Same.refl _) S (.old .bl)

/-! ### equality of data -/
theorem dps_of {G H : Hp} {n : Nat} (ih : ∀ (t : T) (v : V), okN n t = true → Rep K G t v → Dp K H v (toD t) ∧ (toD t).canLay0 = true ∧ (toD t).depth ≤ n) :
    ∀ (ts : List T) (vs : List V), ts.all (okN n) = true → Reps K G ts vs → DpAll K H vs (toDs ts) ∧ PyData.canLayAll0 (toDs ts) = true ∧ PyData.depthAll (toDs ts) ≤ n
  | [], vs, _, r => by
    unfold Reps at r
    subst r
    exact ⟨.nil, rfl, Nat.zero_le _⟩
  | t :: ts, vs, e, r => by
    unfold Reps at r
    obtain ⟨v, r', rfl, a, b⟩ := r
    rw [List.all_cons, Bool.and_eq_true] at e
    obtain ⟨d1, l1, p1⟩ := ih t v e.1 a
    obtain ⟨d2, l2, p2⟩ := dps_of ih ts r' e.2 b
    refine ⟨.cons d1 d2, ?_, ?_⟩
    · show ((toD t).canLay0 && PyData.canLayAll0 (toDs ts)) = true
      rw [l1, l2]; rfl
    · show max (toD t).depth (PyData.depthAll (toDs ts)) ≤ n
      omega
theorem dp_of {G H : Hp} (h : Same G H) : ∀ (n : Nat) (t : T) (v : V), okN n t = true → Rep K G t v → Dp K H v (toD t) ∧ (toD t).canLay0 = true ∧ (toD t).depth ≤ n := by
  intro n
  induction n with
  | zero =>
    intro t v e r
    cases t with
    | non => unfold Rep at r; subst r; exact ⟨.non, rfl, Nat.zero_le _⟩
    | bl b => unfold Rep at r; subst r; exact ⟨.bl b, rfl, Nat.zero_le _⟩
    | int i => unfold Rep at r; subst r; exact ⟨.int i, rfl, Nat.zero_le _⟩
    | str x => unfold Rep at r; subst r; exact ⟨.str x, e, Nat.zero_le _⟩
    | tup _ => cases e
    | lst _ => cases e
    | old _ => cases e
    | dct _ _ => cases e
  | succ n ih =>
    intro t v e r
    cases t with
    | non => unfold Rep at r; subst r; exact ⟨.non, rfl, Nat.zero_le _⟩
    | bl b => unfold Rep at r; subst r; exact ⟨.bl b, rfl, Nat.zero_le _⟩
    | int i => unfold Rep at r; subst r; exact ⟨.int i, rfl, Nat.zero_le _⟩
    | str x => unfold Rep at r; subst r; exact ⟨.str x, e, Nat.zero_le _⟩
    | tup ts =>
      unfold Rep at r
      obtain ⟨a, vs, rfl, s, q⟩ := r
      obtain ⟨d, l, p⟩ := dps_of ih ts vs e q
      exact ⟨.tup (Same.tup h s) d, l, Nat.succ_le_succ p⟩
    | lst ts =>
      unfold Rep at r
      obtain ⟨a, vs, rfl, s, q⟩ := r
      obtain ⟨d, l, p⟩ := dps_of ih ts vs e q
      exact ⟨.lst (.inl (.inl (h _ _ s))) d, l, Nat.succ_le_succ p⟩
    | old _ => cases e
    | dct _ _ => cases e
theorem shaped_of {t : T} (h1 : (toD t).canLay0 = true) (h2 : (toD t).depth ≤ 60) : SeqAt.shaped (toD t) = true := by
  unfold SeqAt.shaped
  rw [h1, decide_eq_true (by omega)]
  rfl
theorem Rdy.dp {N : Nt} {G H : Hp} {κ : List Bool} {σ : L2.St} {γ : En} {B : List Nat} {t : T} {v : V} (r : Rdy K κ G σ γ B t v) (S : Sta K N G κ σ H γ) (e : okT t = true) : Dp K H v (toD t) ∧ SeqAt.shaped (toD t) = true := by
  rcases r with r | ⟨i, b, k, g, z⟩
  · obtain ⟨d, l, p⟩ := dp_of S.le 60 t v e r
    exact ⟨d, shaped_of l p⟩
  · cases t with
    | lst ts =>
      obtain ⟨a, vs, rfl, h1, r1⟩ := Rdy.list (.inr ⟨i, b, k, g, z⟩) S
      obtain ⟨d, l, p⟩ := dps_of (dp_of S.le 59) ts vs e r1
      exact ⟨.lst (.inl (.inl h1)) d, shaped_of l (Nat.succ_le_succ p)⟩
    | dct _ _ => cases e
    | non => obtain ⟨a, o, e1, _, e3, q, _⟩ := S.own i _ k g; exact q.elim
    | bl _ => obtain ⟨a, o, e1, _, e3, q, _⟩ := S.own i _ k g; exact q.elim
    | int _ => obtain ⟨a, o, e1, _, e3, q, _⟩ := S.own i _ k g; exact q.elim
    | str _ => obtain ⟨a, o, e1, _, e3, q, _⟩ := S.own i _ k g; exact q.elim
    | tup _ => obtain ⟨a, o, e1, _, e3, q, _⟩ := S.own i _ k g; exact q.elim
    | old _ => obtain ⟨a, o, e1, _, e3, q, _⟩ := S.own i _ k g; exact q.elim
theorem o2_eq : Op2 K (rEqD K) false gEq := by
  intro N G κ σ H γ B B' tx ty tz x y S rx ry e Q q
  unfold gEq at e
  split at e <;> cases e
  rename_i h
  rw [Bool.and_eq_true] at h
  obtain ⟨d1, s1⟩ := rx.dp S h.1
  obtain ⟨d2, s2⟩ := ry.dp S h.2
  exact ⟨_, _, d1, d2, s1, s2, q _ G H (Same.refl _) S (.old .bl)⟩
theorem o2_ne : Op2 K (rNeD K) false gNe := by
  intro N G κ σ H γ B B' tx ty tz x y S rx ry e Q q
  unfold gNe at e
  split at e <;> cases e
  rename_i h
  rw [Bool.and_eq_true] at h
  obtain ⟨d1, s1⟩ := rx.dp S h.1
  obtain ⟨d2, s2⟩ := ry.dp S h.2
  exact ⟨_, _, d1, d2, s1, s2, q _ G H (Same.refl _) S (.old .bl)⟩
/-- in a list of data -/
def gIn : T → T → Option T
  | t, .lst ts => if okT t && okT (.lst ts) then some (.bl (ts.any fun z => eqT z t)) else none
  | _, _ => none
def gNotIn : T → T → Option T
  | t, .lst ts => if okT t && okT (.lst ts) then some (.bl (!ts.any fun z => eqT z t)) else none
  | _, _ => none
theorem toDs_any (d : PyData) : ∀ ts : List T, (toDs ts).any (fun z => PyData.eqv z d) = ts.any fun z => PyData.eqv (toD z) d
  | [] => rfl
  | t :: ts => by
    show (PyData.eqv (toD t) d || (toDs ts).any _) = _
    rw [toDs_any d ts, List.any_cons]
theorem o2_in : Op2 K (rInD K) false gIn := by
  intro N G κ σ H γ B B' tx ty tz x y S rx ry e Q q
  unfold gIn at e
  split at e
  · split at e <;> cases e
    rename_i ts h
    rw [Bool.and_eq_true] at h
    obtain ⟨d1, s1⟩ := rx.dp S h.1
    obtain ⟨d2, s2⟩ := ry.dp S h.2
    refine ⟨_, toDs ts, d1, d2, s1, s2, ?_⟩
    rw [toDs_any]
    exact q _ G H (Same.refl _) S (.old .bl)
  · cases e
theorem o2_notIn : Op2 K (rNotInD K) false gNotIn := by
  intro N G κ σ H γ B B' tx ty tz x y S rx ry e Q q
  unfold gNotIn at e
  split at e
  · split at e <;> cases e
    rename_i ts h
    rw [Bool.and_eq_true] at h
    obtain ⟨d1, s1⟩ := rx.dp S h.1
    obtain ⟨d2, s2⟩ := ry.dp S h.2
    refine ⟨_, toDs ts, d1, d2, s1, s2, ?_⟩
    rw [toDs_any]
    exact q _ G H (Same.refl _) S (.old .bl)
  · cases e

/-! ### the rules of expressions -/
variable {κ : List Bool} {e a b c : Expr} {es : List Expr} {pos p : Pos} {m : Bool} {B B1 B2 M M1 M2 M3 : List Nat} {f f1 f2 f3 : Ex} {x : Str}
theorem Sta.self {N : Nt} {G H : Hp} {κ : List Bool} {σ : L2.St} {γ : En} (S : Sta K N G κ σ H γ) : Same G G ∧ Sta K N G κ σ H γ := ⟨Same.refl _, S⟩
theorem eVar_some {i : Nat} {γ γ' : En} {r : T} (h : eVar i γ = some (r, γ')) : γ[i]? = some (some r) ∧ γ' = γ := by
  unfold eVar at h
  split at h
  · rename_i t ht
    cases h
    exact ⟨ht, rfl⟩
  · cases h
theorem sx_var (i : Nat) (hk : κ[i]? = some false := by rfl) (hN : X.N[i]? = some x := by rfl) (hv : Vis X.env.scope x := by first | exact Or.inl rfl | exact Or.inr (Or.inl rfl) | exact Or.inr (Or.inr rfl))
    (hd : (x == ("__debug__" : Str)) = false := by decide) (hcd : (x == ("__classdict__" : Str)) = false := by decide) : SX X (.Name x pos) false [] [] κ (eVar i) :=
  PE.weak (pe_var hN hv hd hcd) fun σ H Q ⟨N, G, γ, r, γ', S, e, q⟩ => by
    obtain ⟨h1, rfl⟩ := eVar_some e
    obtain ⟨v, h2, h3⟩ := S.shr i r hk h1
    exact ⟨v, h2, q v G H (Same.refl _) S (.refl _ _) (.old h3)⟩
theorem sx_own (i : Nat) (hk : κ[i]? = some true := by rfl) (hN : X.N[i]? = some x := by rfl) (hv : Vis X.env.scope x := by first | exact Or.inl rfl | exact Or.inr (Or.inl rfl) | exact Or.inr (Or.inr rfl))
    (hd : (x == ("__debug__" : Str)) = false := by decide) (hcd : (x == ("__classdict__" : Str)) = false := by decide) : SX X (.Name x pos) false [i] [] κ (eVar i) :=
  PE.weak (pe_var hN hv hd hcd) fun σ H Q ⟨N, G, γ, r, γ', S, e, q⟩ => by
    obtain ⟨h1, rfl⟩ := eVar_some e
    obtain ⟨a, o, h2, _⟩ := S.own i r hk h1
    refine ⟨_, h2, q _ G H (Same.refl _) S (.refl _ _) ?_⟩
    unfold Rsl
    rw [if_neg (by decide)]
    exact .inr ⟨i, by simp, hk, h1, h2⟩
theorem lit_of {K : PySem.W.Frag} {t : T} {v : V} (hr : ∀ G, Rep K G t v) : ∀ σ H Q, cE K false [] [] κ (eLit t) σ H Q → tC v σ H Q := fun σ H Q ⟨N, G, γ, r, γ', S, e, q⟩ => by
  cases e
  exact q v G H (Same.refl _) S (.refl _ _) (.old (hr G))
theorem sx_int {i j} : SX X (.Constant (.int i) j pos) false [] [] κ (eLit (.int i)) := PE.weak pe_int (lit_of fun G => Rep.int)
theorem sx_bl {i j} : SX X (.Constant (.bool i) j pos) false [] [] κ (eLit (.bl i)) := PE.weak pe_bl (lit_of fun G => Rep.bl)
theorem sx_non {j} : SX X (.Constant .none j pos) false [] [] κ (eLit .non) := PE.weak pe_non (lit_of fun G => Rep.non)
theorem sx_str {i j} : SX X (.Constant (.str i) j pos) false [] [] κ (eLit (.str i)) := PE.weak pe_str (lit_of fun G => Rep.str)
/-- a module's value that lasts -/
theorem sx_glob {t : T} {v : V} {u : Value} (hg : Gl X x) (hm : X.mg x = some u) (r : RelV v u) (hr : ∀ G, Rep X.K G t v) (hd : (x == ("__debug__" : Str)) = false := by decide) : SX X (.Name x pos) false [] [] κ (eLit t) :=
  PE.weak (pe_glob hg hm r hd) (lit_of hr)
/-- a new one, seen as lasting -/
theorem sx_last (h : SX X e true B M κ f) : SX X e false [] M κ f := PE.weak h fun σ H Q ⟨N, G, γ, r, γ', S, ef, q⟩ =>
  ⟨N, G, γ, r, γ', S, ef, fun v G' H' s1 S1 kp rs => by
    obtain ⟨G2, s2, S2, rp⟩ := rs.fre.lasts S1
    exact q v G2 H' (s1.trans s2) S2 kp (.old rp)⟩
theorem sx_bin {op : Operator} {r : R2} {g : T → T → Option T} (ho : OpR X (binaryOp op) r) (hg : Op2 X.K r m g) (ha : SX X a false B1 M1 κ f1) (hb : SX X b false B2 M2 κ f2) (hd : ∀ i, i ∈ B1 → i ∉ M2 := by decide) :
    SX X (.BinOp a op b pos) m [] (M1 ++ M2) κ (eBin g f1 f2) := PE.weak (pe_op ho ha hb) fun σ H Q ⟨N, G, γ, r, γ', S, e, q⟩ => by
  unfold eBin at e
  obtain ⟨⟨t1, γ1⟩, e1, e⟩ := Option.bind_eq_some_iff.mp e
  obtain ⟨⟨t2, γ2⟩, e2, e⟩ := Option.bind_eq_some_iff.mp e
  obtain ⟨t3, e3, e⟩ := Option.map_eq_some_iff.mp e
  cases e
  refine ⟨N, G, γ, t1, γ1, S, e1, fun v1 G1 H1 s1 S1 k1 r1 => ⟨N, G1, γ1, t2, γ2, S1, e2, fun v2 G2 H2 s2 S2 k2 r2 => ?_⟩⟩
  have r1' : Rdy X.K κ G2 σ γ2 B1 t1 v1 := r1.rdy.mono s2 (fun i hi => k2 i (hd i hi)) (fun _ h => h)
  exact hg N G2 κ σ H2 γ2 B1 B2 t1 t2 _ v1 v2 S2 r1' r2.rdy e3 Q fun v G3 H3 s3 S3 rs => q v G3 H3 ((s1.trans s2).trans s3) S3 (k1.trans k2) rs
theorem sx_cmp {op : CmpOp} {r : R2} {g : T → T → Option T} (ho : OpR X (compareOp op) r) (hg : Op2 X.K r false g) (ha : SX X a false B1 M1 κ f1) (hb : SX X b false B2 M2 κ f2) (hm : behindInMarks op b = false := by rfl) (hd : ∀ i, i ∈ B1 → i ∉ M2 := by decide) :
    SX X (.Compare a [op] [b] pos) false [] (M1 ++ M2) κ (eBin g f1 f2) := PE.weak (pe_cmpR ho ha hb hm) fun σ H Q ⟨N, G, γ, r, γ', S, e, q⟩ => by
  unfold eBin at e
  obtain ⟨⟨t1, γ1⟩, e1, e⟩ := Option.bind_eq_some_iff.mp e
  obtain ⟨⟨t2, γ2⟩, e2, e⟩ := Option.bind_eq_some_iff.mp e
  obtain ⟨t3, e3, e⟩ := Option.map_eq_some_iff.mp e
  cases e
  refine ⟨N, G, γ, t1, γ1, S, e1, fun v1 G1 H1 s1 S1 k1 r1 => ⟨N, G1, γ1, t2, γ2, S1, e2, fun v2 G2 H2 s2 S2 k2 r2 => ?_⟩⟩
  have r1' : Rdy X.K κ G2 σ γ2 B1 t1 v1 := r1.rdy.mono s2 (fun i hi => k2 i (hd i hi)) (fun _ h => h)
  exact hg N G2 κ σ H2 γ2 B1 B2 t1 t2 _ v1 v2 S2 r1' r2.rdy e3 Q fun v G3 H3 s3 S3 rs => q v G3 H3 ((s1.trans s2).trans s3) S3 (k1.trans k2) rs
theorem tOf_some {f : Ex} {γ γ' : En} {k : Bool} (h : tOf f γ = some (k, γ')) : f γ = some (.bl k, γ') := by
  unfold tOf at h
  split at h
  · rename_i e
    cases h
    exact e
  · cases h
theorem st_cmp {op : CmpOp} {r : R2} {g : T → T → Option T} (ho : OpR X (compareOp op) r) (hg : Op2 X.K r false g) (ha : SX X a false B1 M1 κ f1) (hb : SX X b false B2 M2 κ f2) (hm : behindInMarks op b = false := by rfl) (hd : ∀ i, i ∈ B1 → i ∉ M2 := by decide) :
    ST X (.Compare a [op] [b] pos) (M1 ++ M2) κ (tOf (eBin g f1 f2)) := PT.weak (pt_cmpR ho ha hb hm) fun σ H Q ⟨N, G, γ, r, γ', S, e, q⟩ => by
  have e := tOf_some e
  unfold eBin at e
  obtain ⟨⟨t1, γ1⟩, e1, e⟩ := Option.bind_eq_some_iff.mp e
  obtain ⟨⟨t2, γ2⟩, e2, e⟩ := Option.bind_eq_some_iff.mp e
  obtain ⟨t3, e3, e⟩ := Option.map_eq_some_iff.mp e
  cases e
  refine ⟨N, G, γ, t1, γ1, S, e1, fun v1 G1 H1 s1 S1 k1 r1 => ⟨N, G1, γ1, t2, γ2, S1, e2, fun v2 G2 H2 s2 S2 k2 r2 => ?_⟩⟩
  have r1' : Rdy X.K κ G2 σ γ2 B1 t1 v1 := r1.rdy.mono s2 (fun i hi => k2 i (hd i hi)) (fun _ h => h)
  refine hg N G2 κ σ H2 γ2 B1 B2 t1 t2 _ v1 v2 S2 r1' r2.rdy e3 _ fun v G3 H3 s3 S3 rs => ?_
  exact ⟨_, rs.rdy.bl S3, q G3 H3 ((s1.trans s2).trans s3) S3 (k1.trans k2)⟩
theorem sx_un {op : UnaryOp} {r : V → Hp → VK → Prop} {g : T → Option T} (ho : UnR X (unaryOp op) r) (hg : Op1 X.K r m g) (ha : SX X a false B1 M1 κ f1) : SX X (.UnaryOp op a pos) m [] M1 κ (eUn g f1) :=
  PE.weak (pe_un ho ha) fun σ H Q ⟨N, G, γ, r, γ', S, e, q⟩ => by
  unfold eUn at e
  obtain ⟨⟨t1, γ1⟩, e1, e⟩ := Option.bind_eq_some_iff.mp e
  obtain ⟨t3, e3, e⟩ := Option.map_eq_some_iff.mp e
  cases e
  refine ⟨N, G, γ, t1, γ1, S, e1, fun v1 G1 H1 s1 S1 k1 r1 => ?_⟩
  exact hg N G1 κ σ H1 γ1 B1 t1 _ v1 S1 r1.rdy e3 Q fun v G3 H3 s3 S3 rs => q v G3 H3 (s1.trans s3) S3 k1 rs
theorem o1_neg : Op1 K (rU fun i => .int (-i)) false gNeg := by
  intro N G κ σ H γ B tx tz x S rx e Q q
  unfold gNeg at e
  split at e <;> cases e
  exact ⟨_, rx.int S, q _ G H (Same.refl _) S (.old .int)⟩
end
end Tw

namespace Tw
open PySem PySem.Spec PyProof.Rows L2

section
variable {X : Cx} {K : PySem.W.Frag} {N : Nt} {G G' H H' : Hp} {σ : L2.St} {γ γ' : En} {ts : List T} {vs : List V} {t : T} {v : V}
variable {κ : List Bool} {e a b c o : Expr} {es : List Expr} {pos p apos cpos : Pos} {m : Bool} {B B1 B2 M M1 M2 M3 : List Nat} {f f1 f2 f3 : Ex} {g1 g2 : Ax} {c1 c2 : Tx} {x name : Str} {id T' : String}
theorem Rdys.mono (r : Rdys K κ G σ γ B ts vs) (h : Same G G') (hM : ∀ i : Nat, i ∈ B → γ'[i]? = γ[i]?) (hB : ∀ i : Nat, i ∈ B → i ∈ B2) : Rdys K κ G' σ γ' B2 ts vs := by
  induction r with
  | nil => exact .nil
  | cons r _ ih => exact .cons (r.mono h hM hB) ih
theorem Rdys.one (r : Rdys K κ G σ γ B [t] vs) : ∃ v, vs = [v] ∧ Rdy K κ G σ γ B t v := by
  cases r with
  | cons a b => cases b; exact ⟨_, rfl, a⟩
theorem Rdys.two {u : T} (r : Rdys K κ G σ γ B [t, u] vs) : ∃ v w, vs = [v, w] ∧ Rdy K κ G σ γ B t v ∧ Rdy K κ G σ γ B u w := by
  cases r with
  | cons a b => cases b with
    | cons a2 b2 => cases b2; exact ⟨_, _, rfl, a, a2⟩
theorem Rdys.reps : ∀ {ts : List T} {vs : List V}, Rdys K κ G σ γ [] ts vs → Reps K G ts vs
  | _, _, .nil => .nil
  | _, _, .cons a b => .cons a.rep (Rdys.reps b)
theorem sa_nil : SA X [] [] [] κ aNil := PA.weak pa_nil fun σ H Q ⟨N, G, γ, r, γ', S, ef, q⟩ => by
  cases ef
  exact q [] G H (Same.refl _) S (.refl _ _) .nil
theorem sa_cons (ha : SX X e false B1 M1 κ f) (hr : SA X es B2 M2 κ g1) (hd : ∀ i, i ∈ B1 → i ∉ M2 := by decide) (hs : starEach (e :: es) X.env = (false, eval e X.env) :: starEach es X.env := by rfl) :
    SA X (e :: es) (B1 ++ B2) (M1 ++ M2) κ (aCons f g1) := PA.weak (pa_cons ha hr hs) fun σ H Q ⟨N, G, γ, r, γ', S, ef, q⟩ => by
  unfold aCons at ef
  obtain ⟨⟨t1, γ1⟩, e1, ef⟩ := Option.bind_eq_some_iff.mp ef
  obtain ⟨⟨t2, γ2⟩, e2, ef⟩ := Option.map_eq_some_iff.mp ef
  cases ef
  refine ⟨N, G, γ, t1, γ1, S, e1, fun v1 G1 H1 s1 S1 k1 r1 => ⟨N, G1, γ1, t2, γ2, S1, e2, fun vs G2 H2 s2 S2 k2 r2 => ?_⟩⟩
  refine q (v1 :: vs) G2 H2 (s1.trans s2) S2 (k1.trans k2) (.cons ?_ (r2.mono (Same.refl _) (fun _ _ => rfl) fun _ h => List.mem_append_right _ h))
  exact r1.rdy.mono s2 (fun i hi => k2 i (hd i hi)) (fun _ h => List.mem_append_left _ h)

/-! ### calls of built-ins -/
theorem call_of {r : List V → Hp → VK → Prop} {g : List T → Option T} (hg : FnT K r m g) : ∀ σ H Q, cE K m [] M κ (eCall g g1) σ H Q → tCB r (cA K B M κ g1) σ H Q := fun σ H Q ⟨N, G, γ, r, γ', S, ef, q⟩ => by
  unfold eCall at ef
  obtain ⟨⟨t1, γ1⟩, e1, ef⟩ := Option.bind_eq_some_iff.mp ef
  obtain ⟨t3, e3, ef⟩ := Option.map_eq_some_iff.mp ef
  cases ef
  refine ⟨N, G, γ, t1, γ1, S, e1, fun vs G1 H1 s1 S1 k1 r1 => ?_⟩
  exact hg N G1 κ σ H1 γ1 B t1 _ vs S1 r1 e3 Q fun v G3 H3 s3 S3 rs => q v G3 H3 (s1.trans s3) S3 k1 rs
theorem sx_callB {r : List V → Hp → VK → Prop} {g : List T → Option T} (hc : CallR X (.builtin id) r) (hg : FnT X.K r m g) (hgl : Gl X x) (hm : X.mg x = none) (hv : bootBuiltins x = some (.builtin id)) (ha : SA X (e :: es) B M κ g1)
    (hn : x ≠ "__name__" := by decide) (hdb : (x == ("__debug__" : Str)) = false := by decide) (he : starEach (e :: es) X.env = (false, eval e X.env) :: starEach es X.env := by rfl) (hpl : (backTo pos (starEach es X.env)).any (·.1) = false := by rfl) :
    SX X (.Call (.Name x p) (e :: es) [] pos) m [] M κ (eCall g g1) := PE.weak (pe_callB hc hgl hm hv ha hn hdb he hpl) (call_of hg)
theorem sx_callTy {r : List V → Hp → VK → Prop} {g : List T → Option T} (hc : CallR X (.type id) r) (hg : FnT X.K r m g) (hgl : Gl X x) (hm : X.mg x = none) (hv : bootBuiltins x = some (.type id)) (ha : SA X (e :: es) B M κ g1)
    (hn : x ≠ "__name__" := by decide) (hdb : (x == ("__debug__" : Str)) = false := by decide) (he : starEach (e :: es) X.env = (false, eval e X.env) :: starEach es X.env := by rfl) (hpl : (backTo pos (starEach es X.env)).any (·.1) = false := by rfl) :
    SX X (.Call (.Name x p) (e :: es) [] pos) m [] M κ (eCall g g1) := PE.weak (pe_callTy hc hgl hm hv ha hn hdb he hpl) (call_of hg)

/-! ### truth, and, or, not, if -/
theorem Rdy.tru {k : Bool} (r : Rdy K κ G σ γ B t v) (S : Sta K N G κ σ H γ) (e : truT t = some k) : TruV K v H k := by
  cases t with
  | non => have := r.non S; subst this; cases e; rfl
  | bl _ => have := r.bl S; subst this; cases e; rfl
  | int _ => have := r.int S; subst this; cases e; rfl
  | str y =>
    have := r.str S
    subst this
    have e2 : (if y.length ≤ sizeLine then some ((y.length : Int) != 0) else none) = some k := e
    split at e2 <;> cases e2
    exact ⟨by assumption, rfl⟩
  | lst ts =>
    obtain ⟨a, vs, rfl, h1, r1⟩ := r.list S
    cases e
    refine .inl ⟨vs, .inl (.inl h1), ?_⟩
    have := r1.length
    cases ts <;> cases vs <;> simp at this ⊢
  | old ts =>
    obtain ⟨a, vs, rfl, h1, r1⟩ := r.older S
    cases e
    refine .inl ⟨vs, h1, ?_⟩
    have := r1.length
    cases ts <;> cases vs <;> simp at this ⊢
  | tup ts =>
    obtain ⟨a, vs, rfl, h1, r1⟩ := r.tuple S
    cases e
    refine .inr (.inl ⟨vs, h1, ?_⟩)
    have := r1.length
    cases ts <;> cases vs <;> simp at this ⊢
  | dct _ _ => cases e
theorem st_tru (h : SX X e false B M κ f) (he : ∀ whole, isTrue e X.env whole = (do let v ← whole; standAt e.pos; holding [v] (truthy v)) := by intro _; rfl) : ST X e M κ (tTru f) :=
  PT.weak (pt_truth h he) fun σ H Q ⟨N, G, γ, r, γ', S, ef, q⟩ => by
  unfold tTru at ef
  obtain ⟨⟨t1, γ1⟩, e1, ef⟩ := Option.bind_eq_some_iff.mp ef
  obtain ⟨k, e3, ef⟩ := Option.map_eq_some_iff.mp ef
  cases ef
  exact ⟨N, G, γ, t1, γ1, S, e1, fun v G1 H1 s1 S1 k1 r1 => ⟨_, r1.rdy.tru S1 e3, q G1 H1 s1 S1 k1⟩⟩
theorem st_not (h : ST X a M κ c1) : ST X (.UnaryOp .Not a pos) M κ (tNotT c1) := PT.weak (pt_not h) fun σ H Q ⟨N, G, γ, r, γ', S, ef, q⟩ => by
  unfold tNotT at ef
  obtain ⟨⟨k, γ1⟩, e1, ef⟩ := Option.map_eq_some_iff.mp ef
  cases ef
  exact ⟨N, G, γ, k, γ1, S, e1, fun G1 H1 s1 S1 k1 => q G1 H1 s1 S1 k1⟩
theorem sw_and1 (h : ST X a M κ c1) : SW X (.BoolOp .And [a] pos) M κ c1 := PW.weak (pw_and1 h) fun σ H Q q => q
theorem sw_or1 (h : ST X a M κ c1) : SW X (.BoolOp .Or [a] pos) M κ c1 := PW.weak (pw_or1 h) fun σ H Q q => q
theorem Keeps.wide {M M' : List Nat} {γ γ' : En} (h : Keeps M γ γ') (hs : ∀ i : Nat, i ∈ M → i ∈ M') : Keeps M' γ γ' := fun i hi => h i fun z => hi (hs i z)
theorem sw_and {rest : List Expr} (h : ST X a M1 κ c1) (h2 : SW X (.BoolOp .And (b :: rest) pos) M2 κ c2) : SW X (.BoolOp .And (a :: b :: rest) pos) (M1 ++ M2) κ (tAndT c1 c2) :=
  PW.weak (pw_and h h2) fun σ H Q ⟨N, G, γ, r, γ', S, ef, q⟩ => by
  unfold tAndT at ef
  obtain ⟨⟨k, γ1⟩, e1, ef⟩ := Option.bind_eq_some_iff.mp ef
  refine ⟨N, G, γ, k, γ1, S, e1, fun G1 H1 s1 S1 k1 => ?_⟩
  cases k with
  | true =>
    rw [if_pos rfl] at ef ⊢
    exact ⟨N, G1, γ1, r, γ', S1, ef, fun G2 H2 s2 S2 k2 => q G2 H2 (s1.trans s2) S2 (k1.trans k2)⟩
  | false =>
    dsimp only at ef
    rw [if_neg Bool.false_ne_true] at ef ⊢
    cases ef
    exact q G1 H1 s1 S1 (k1.wide fun _ h => List.mem_append_left _ h)
theorem sw_or {rest : List Expr} (h : ST X a M1 κ c1) (h2 : SW X (.BoolOp .Or (b :: rest) pos) M2 κ c2) : SW X (.BoolOp .Or (a :: b :: rest) pos) (M1 ++ M2) κ (tOrT c1 c2) :=
  PW.weak (pw_or h h2) fun σ H Q ⟨N, G, γ, r, γ', S, ef, q⟩ => by
  unfold tOrT at ef
  obtain ⟨⟨k, γ1⟩, e1, ef⟩ := Option.bind_eq_some_iff.mp ef
  refine ⟨N, G, γ, k, γ1, S, e1, fun G1 H1 s1 S1 k1 => ?_⟩
  cases k with
  | false =>
    dsimp only at ef
    rw [if_neg Bool.false_ne_true] at ef ⊢
    exact ⟨N, G1, γ1, r, γ', S1, ef, fun G2 H2 s2 S2 k2 => q G2 H2 (s1.trans s2) S2 (k1.trans k2)⟩
  | true =>
    rw [if_pos rfl] at ef ⊢
    cases ef
    exact q G1 H1 s1 S1 (k1.wide fun _ h => List.mem_append_left _ h)
/-- and, or, not as values: what comes before the last one is a bool -/
theorem sx_one {op : BoolOp} (h : SX X a m B M κ f) : SX X (.BoolOp op [a] pos) m B M κ f := PE.weak (pe_one h) fun σ H Q q => q
theorem sx_and {rest : List Expr} (h : SX X a false B1 M1 κ f1) (h2 : SX X (.BoolOp .And (b :: rest) pos) false B2 M2 κ f2) : SX X (.BoolOp .And (a :: b :: rest) pos) false B2 (M1 ++ M2) κ (eAnd f1 f2) :=
  PE.weak (pe_and h h2) fun σ H Q ⟨N, G, γ, r, γ', S, ef, q⟩ => by
  unfold eAnd at ef
  split at ef
  · rename_i γ1 e1
    refine ⟨N, G, γ, _, γ1, S, e1, fun v1 G1 H1 s1 S1 k1 r1 => ⟨true, r1.rdy.bl S1, ?_⟩⟩
    rw [if_pos rfl]
    exact ⟨N, G1, γ1, r, γ', S1, ef, fun v2 G2 H2 s2 S2 k2 r2 => q v2 G2 H2 (s1.trans s2) S2 (k1.trans k2) r2⟩
  · rename_i γ1 e1
    cases ef
    refine ⟨N, G, γ, _, _, S, e1, fun v1 G1 H1 s1 S1 k1 r1 => ⟨false, r1.rdy.bl S1, ?_⟩⟩
    rw [if_neg (by decide)]
    exact q _ G1 H1 s1 S1 (k1.wide fun _ h => List.mem_append_left _ h) (.old .bl)
  · cases ef
theorem sx_or {rest : List Expr} (h : SX X a false B1 M1 κ f1) (h2 : SX X (.BoolOp .Or (b :: rest) pos) false B2 M2 κ f2) : SX X (.BoolOp .Or (a :: b :: rest) pos) false B2 (M1 ++ M2) κ (eOr f1 f2) :=
  PE.weak (pe_or h h2) fun σ H Q ⟨N, G, γ, r, γ', S, ef, q⟩ => by
  unfold eOr at ef
  split at ef
  · rename_i γ1 e1
    refine ⟨N, G, γ, _, γ1, S, e1, fun v1 G1 H1 s1 S1 k1 r1 => ⟨false, r1.rdy.bl S1, ?_⟩⟩
    rw [if_neg (by decide)]
    exact ⟨N, G1, γ1, r, γ', S1, ef, fun v2 G2 H2 s2 S2 k2 r2 => q v2 G2 H2 (s1.trans s2) S2 (k1.trans k2) r2⟩
  · rename_i γ1 e1
    cases ef
    refine ⟨N, G, γ, _, _, S, e1, fun v1 G1 H1 s1 S1 k1 r1 => ⟨true, r1.rdy.bl S1, ?_⟩⟩
    rw [if_pos rfl]
    exact q _ G1 H1 s1 S1 (k1.wide fun _ h => List.mem_append_left _ h) (.old .bl)
  · cases ef
theorem sx_not (h : SX X a false B1 M1 κ f1) : SX X (.UnaryOp .Not a pos) false [] M1 κ (eNot f1) :=
  PE.weak (pe_not h) fun σ H Q ⟨N, G, γ, r, γ', S, ef, q⟩ => by
  unfold eNot at ef
  split at ef
  · rename_i k γ1 e1
    cases ef
    exact ⟨N, G, γ, _, _, S, e1, fun v1 G1 H1 s1 S1 k1 r1 => ⟨k, r1.rdy.bl S1, q _ G1 H1 s1 S1 k1 (.old .bl)⟩⟩
  · cases ef
/-- not as a value, by truth of anything -/
theorem sx_notT (h : ST X a M κ c1) : ST X a M κ c1 := h
theorem sx_if (h : ST X c M1 κ c1) (ha : SX X a m B1 M2 κ f1) (hb : SX X b m B2 M3 κ f2) : SX X (.IfExp c a b pos) m (B1 ++ B2) (M1 ++ (M2 ++ M3)) κ (eIf c1 f1 f2) :=
  PE.weak (pe_ifExp h ha hb) fun σ H Q ⟨N, G, γ, r, γ', S, ef, q⟩ => by
  unfold eIf at ef
  obtain ⟨⟨k, γ1⟩, e1, ef⟩ := Option.bind_eq_some_iff.mp ef
  refine ⟨N, G, γ, k, γ1, S, e1, fun G1 H1 s1 S1 k1 => ?_⟩
  cases k with
  | true =>
    rw [if_pos rfl] at ef ⊢
    refine ⟨N, G1, γ1, r, γ', S1, ef, fun v2 G2 H2 s2 S2 k2 r2 => q v2 G2 H2 (s1.trans s2) S2 (k1.trans (k2.wide fun _ h => List.mem_append_left _ h)) ?_⟩
    cases m with
    | true => exact .new r2.fre
    | false => unfold Rsl; rw [if_neg (by decide)]; exact r2.rdy.mono (Same.refl _) (fun _ _ => rfl) fun _ h => List.mem_append_left _ h
  | false =>
    dsimp only at ef
    rw [if_neg Bool.false_ne_true] at ef ⊢
    refine ⟨N, G1, γ1, r, γ', S1, ef, fun v2 G2 H2 s2 S2 k2 r2 => q v2 G2 H2 (s1.trans s2) S2 (k1.trans (k2.wide fun _ h => List.mem_append_right _ h)) ?_⟩
    cases m with
    | true => exact .new r2.fre
    | false => unfold Rsl; rw [if_neg (by decide)]; exact r2.rdy.mono (Same.refl _) (fun _ _ => rfl) fun _ h => List.mem_append_right _ h
theorem sx_chain {op op' : CmpOp} {r r' : R2} {g g' : T → T → Option T} (ho : OpR X (compareOp op) r) (ho' : OpR X (compareOp op') r') (hg : Op2 X.K r false g) (hg' : Op2 X.K r' false g') (ha : SX X a false B1 M1 κ f1) (hb : SX X b false B2 M2 κ f2) (hc : SX X c false B M3 κ f3)
    (hd : ∀ i, i ∈ B1 → i ∉ M2 := by decide) (hd2 : ∀ i, i ∈ B2 → i ∉ M3 := by decide) (hlm : lastMarks [op, op'] [b, c] = false := by with_unfolding_all rfl) : SX X (.Compare a [op, op'] [b, c] pos) false [] (M1 ++ (M2 ++ M3)) κ (eChain g g' f1 f2 f3) := by
  refine PE.weak (pe_chain ho ho' ha hb hc (hm := hlm)) fun σ H Q ⟨N, G, γ, r, γ', S, ef, q⟩ => ?_
  unfold eChain at ef
  obtain ⟨⟨t1, γ1⟩, e1, ef⟩ := Option.bind_eq_some_iff.mp ef
  obtain ⟨⟨t2, γ2⟩, e2, ef⟩ := Option.bind_eq_some_iff.mp ef
  refine ⟨N, G, γ, t1, γ1, S, e1, fun v1 G1 H1 s1 S1 k1 r1 => ⟨N, G1, γ1, t2, γ2, S1, e2, fun v2 G2 H2 s2 S2 k2 r2 => ?_⟩⟩
  have r1' : Rdy X.K κ G2 σ γ2 B1 t1 v1 := r1.rdy.mono s2 (fun i hi => k2 i (hd i hi)) (fun _ h => h)
  dsimp only at ef
  split at ef
  · rename_i e3
    obtain ⟨⟨t3, γ3⟩, e4, ef⟩ := Option.bind_eq_some_iff.mp ef
    obtain ⟨t4, e5, ef⟩ := Option.map_eq_some_iff.mp ef
    cases ef
    refine hg N G2 κ σ H2 γ2 B1 B2 t1 t2 _ v1 v2 S2 r1' r2.rdy e3 _ fun v G3 H3 s3 S3 rs => ⟨true, rs.rdy.bl S3, ?_⟩
    rw [if_pos rfl]
    refine ⟨N, G3, γ2, t3, γ3, S3, e4, fun v4 G4 H4 s4 S4 k4 r4 => ?_⟩
    have r2' : Rdy X.K κ G4 σ γ3 B2 t2 v2 := r2.rdy.mono (s3.trans s4) (fun i hi => k4 i (hd2 i hi)) (fun _ h => h)
    exact hg' N G4 κ σ H4 γ3 B2 B t2 t3 _ v2 v4 S4 r2' r4.rdy e5 Q fun v G5 H5 s5 S5 rs => q v G5 H5 ((((s1.trans s2).trans s3).trans s4).trans s5) S5 (k1.trans (k2.trans k4)) rs
  · rename_i e3
    cases ef
    refine hg N G2 κ σ H2 _ B1 B2 t1 t2 _ v1 v2 S2 r1' r2.rdy e3 _ fun v G3 H3 s3 S3 rs => ⟨false, rs.rdy.bl S3, ?_⟩
    rw [if_neg (by decide)]
    exact q _ G3 H3 ((s1.trans s2).trans s3) S3 (k1.trans (k2.wide fun _ h => List.mem_append_left _ h)) (.old .bl)
  · cases ef
theorem st_chain {op op' : CmpOp} {r r' : R2} {g g' : T → T → Option T} (ho : OpR X (compareOp op) r) (ho' : OpR X (compareOp op') r') (hg : Op2 X.K r false g) (hg' : Op2 X.K r' false g') (ha : SX X a false B1 M1 κ f1) (hb : SX X b false B2 M2 κ f2) (hc : SX X c false B M3 κ f3)
    (hd : ∀ i, i ∈ B1 → i ∉ M2 := by decide) (hd2 : ∀ i, i ∈ B2 → i ∉ M3 := by decide) (hlm : lastMarks [op, op'] [b, c] = false := by with_unfolding_all rfl) : ST X (.Compare a [op, op'] [b, c] pos) (M1 ++ (M2 ++ M3)) κ (tOf (eChain g g' f1 f2 f3)) := by
  refine PT.weak (pt_chain ho ho' ha hb hc (hm := hlm)) fun σ H Q ⟨N, G, γ, r, γ', S, ef, q⟩ => ?_
  have ef := tOf_some ef
  unfold eChain at ef
  obtain ⟨⟨t1, γ1⟩, e1, ef⟩ := Option.bind_eq_some_iff.mp ef
  obtain ⟨⟨t2, γ2⟩, e2, ef⟩ := Option.bind_eq_some_iff.mp ef
  refine ⟨N, G, γ, t1, γ1, S, e1, fun v1 G1 H1 s1 S1 k1 r1 => ⟨N, G1, γ1, t2, γ2, S1, e2, fun v2 G2 H2 s2 S2 k2 r2 => ?_⟩⟩
  have r1' : Rdy X.K κ G2 σ γ2 B1 t1 v1 := r1.rdy.mono s2 (fun i hi => k2 i (hd i hi)) (fun _ h => h)
  dsimp only at ef
  split at ef
  · rename_i e3
    obtain ⟨⟨t3, γ3⟩, e4, ef⟩ := Option.bind_eq_some_iff.mp ef
    obtain ⟨t4, e5, ef⟩ := Option.map_eq_some_iff.mp ef
    cases ef
    refine hg N G2 κ σ H2 γ2 B1 B2 t1 t2 _ v1 v2 S2 r1' r2.rdy e3 _ fun v G3 H3 s3 S3 rs => ⟨true, rs.rdy.bl S3, ?_⟩
    rw [if_pos rfl]
    refine ⟨N, G3, γ2, t3, γ3, S3, e4, fun v4 G4 H4 s4 S4 k4 r4 => ?_⟩
    have r2' : Rdy X.K κ G4 σ γ3 B2 t2 v2 := r2.rdy.mono (s3.trans s4) (fun i hi => k4 i (hd2 i hi)) (fun _ h => h)
    refine hg' N G4 κ σ H4 γ3 B2 B t2 t3 _ v2 v4 S4 r2' r4.rdy e5 _ fun v G5 H5 s5 S5 rs => ⟨_, rs.rdy.bl S5, ?_⟩
    exact q G5 H5 ((((s1.trans s2).trans s3).trans s4).trans s5) S5 (k1.trans (k2.trans k4))
  · rename_i e3
    cases ef
    refine hg N G2 κ σ H2 _ B1 B2 t1 t2 _ v1 v2 S2 r1' r2.rdy e3 _ fun v G3 H3 s3 S3 rs => ⟨false, rs.rdy.bl S3, ?_⟩
    rw [if_neg (by decide)]
    exact ⟨false, rfl, q G3 H3 ((s1.trans s2).trans s3) S3 (k1.trans (k2.wide fun _ h => List.mem_append_left _ h))⟩
  · cases ef

/-! ### displays, subscripts -/
def eTup (a : Ax) : Ex := fun γ => (a γ).bind fun p => if p.1.length ≤ sizeLine then some (.tup p.1, p.2) else none
def eLst (a : Ax) : Ex := fun γ => (a γ).bind fun p => if p.1.length ≤ sizeLine then some (.lst p.1, p.2) else none
theorem sx_tup {x1} (h : SA X es [] M κ g1) : SX X (.Tuple es x1 pos) false [] M κ (eTup g1) := PE.weak (pe_tup h) fun σ H Q ⟨N, G, γ, r, γ', S, ef, q⟩ => by
  unfold eTup at ef
  obtain ⟨⟨t1, γ1⟩, e1, ef⟩ := Option.bind_eq_some_iff.mp ef
  split at ef <;> cases ef
  rename_i hz
  refine ⟨N, G, γ, t1, _, S, e1, fun vs G1 H1 s1 S1 k1 r1 => ⟨by rw [r1.reps.length]; exact hz, fun p hp => ?_⟩⟩
  obtain ⟨G2, s2, S2, r2⟩ := S1.tupled hp r1.reps
  exact q _ G2 _ (s1.trans s2) S2 k1 (.old r2)
theorem sx_lst (h : SA X es [] M κ g1) : SX X (.List es pos) true [] M κ (eLst g1) := PE.weak (pe_lst h) fun σ H Q ⟨N, G, γ, r, γ', S, ef, q⟩ => by
  unfold eLst at ef
  obtain ⟨⟨t1, γ1⟩, e1, ef⟩ := Option.bind_eq_some_iff.mp ef
  split at ef <;> cases ef
  rename_i hz
  refine ⟨N, G, γ, t1, _, S, e1, fun vs G1 H1 s1 S1 k1 r1 => ⟨by rw [r1.reps.length]; exact hz, fun p hp => ?_⟩⟩
  obtain ⟨S2, r2⟩ := S1.listed hp r1.reps
  exact q _ G1 _ s1 S2 k1 (.new r2)
/-- an item at an index of either sign -/
def gIx : T → T → Option T
  | .lst ts, .int i => atI ts i
  | .old ts, .int i => atI ts i
  | .tup ts, .int i => atI ts i
  | .str z, .int i => if z.length ≤ sizeLine then (atI z.cps.toList i).map fun c => .str ⟨#[c]⟩ else none
  | _, _ => none
theorem atI_reps {i : Int} (r : Reps K G ts vs) (e : atI ts i = some t) : ∃ v, atI vs i = some v ∧ Rep K G t v := by
  unfold atI at e ⊢
  rw [r.length]
  cases h : ixN ts.length i with
  | none => rw [h] at e; cases e
  | some j =>
    rw [h] at e
    obtain ⟨v, h1, h2⟩ := r.get (i := j) (by simpa using e)
    exact ⟨v, by simpa using h1, h2⟩
theorem o2_ix : Op2 K (rIx K) false gIx := by
  intro N G κ σ H γ B B' tx ty tz x y S rx ry e Q q
  unfold gIx at e
  split at e
  · obtain ⟨a, vs, rfl, h1, r1⟩ := rx.list S
    obtain ⟨v, h2, r2⟩ := atI_reps r1 e
    exact .inl ⟨a, vs, _, v, rfl, ry.int S, .inl (.inl h1), h2, q _ G H (Same.refl _) S (.old r2)⟩
  · obtain ⟨a, vs, rfl, h1, r1⟩ := rx.older S
    obtain ⟨v, h2, r2⟩ := atI_reps r1 e
    exact .inl ⟨a, vs, _, v, rfl, ry.int S, h1, h2, q _ G H (Same.refl _) S (.old r2)⟩
  · obtain ⟨a, vs, rfl, h1, r1⟩ := rx.tuple S
    obtain ⟨v, h2, r2⟩ := atI_reps r1 e
    exact .inr (.inl ⟨a, vs, _, v, rfl, ry.int S, h1, h2, q _ G H (Same.refl _) S (.old r2)⟩)
  · split at e
    · obtain ⟨c, h1, rfl⟩ := Option.map_eq_some_iff.mp e
      exact .inr (.inr ⟨_, _, c, rx.str S, ry.int S, by assumption, h1, q _ G H (Same.refl _) S (.old .str)⟩)
    · cases e
  · cases e
theorem sx_ix {r : R2} {g : T → T → Option T} (ho : IxR X r) (hg : Op2 X.K r m g) (ha : SX X a false B1 M1 κ f1) (hb : SX X b false B2 M2 κ f2) (hs : PlainIx b := by exact fun _ _ => rfl) (hd : ∀ i, i ∈ B1 → i ∉ M2 := by decide) :
    SX X (.Subscript a b pos) m [] (M1 ++ M2) κ (eBin g f1 f2) := PE.weak (pe_ix ho ha hb hs) fun σ H Q ⟨N, G, γ, r, γ', S, e, q⟩ => by
  unfold eBin at e
  obtain ⟨⟨t1, γ1⟩, e1, e⟩ := Option.bind_eq_some_iff.mp e
  obtain ⟨⟨t2, γ2⟩, e2, e⟩ := Option.bind_eq_some_iff.mp e
  obtain ⟨t3, e3, e⟩ := Option.map_eq_some_iff.mp e
  cases e
  refine ⟨N, G, γ, t1, γ1, S, e1, fun v1 G1 H1 s1 S1 k1 r1 => ⟨N, G1, γ1, t2, γ2, S1, e2, fun v2 G2 H2 s2 S2 k2 r2 => ?_⟩⟩
  have r1' : Rdy X.K κ G2 σ γ2 B1 t1 v1 := r1.rdy.mono s2 (fun i hi => k2 i (hd i hi)) (fun _ h => h)
  exact hg N G2 κ σ H2 γ2 B1 B2 t1 t2 _ v1 v2 S2 r1' r2.rdy e3 Q fun v G3 H3 s3 S3 rs => q v G3 H3 ((s1.trans s2).trans s3) S3 (k1.trans k2) rs
/-- a slice -/
abbrev Ox := En → Option (Option Int × En)
def oNone : Ox := fun γ => some (none, γ)
def oSome (f : Ex) : Ox := fun γ => match f γ with
  | some (.int i, γ') => some (some i, γ')
  | _ => none
def cO (K : PySem.W.Frag) (M : List Nat) (κ : List Bool) (f : Ox) : TO := fun σ H Q => ∃ N G γ r γ', Sta K N G κ σ H γ ∧ f γ = some (r, γ') ∧ ∀ G' H', Same G G' → Sta K N G' κ σ H' γ' → Keeps M γ γ' → Q r H'
abbrev SO (X : Cx) (e : Option Expr) (M : List Nat) (κ : List Bool) (f : Ox) : Prop := PO X e (cO X.K M κ f)
theorem PO.weak {X : Cx} {e : Option Expr} {t t' : TO} (h : PO X e t) (w : ∀ σ H Q, t' σ H Q → t σ H Q) : PO X e t' := ⟨fun pins s σ H Q I q => h.run pins s σ H Q I (w σ H Q q)⟩
theorem so_none : SO X none [] κ oNone := PO.weak po_none fun σ H Q ⟨N, G, γ, r, γ', S, e, q⟩ => by
  cases e
  exact q G H (Same.refl _) S (.refl _ _)
theorem so_some (h : SX X e false B M κ f) : SO X (some e) M κ (oSome f) := PO.weak (po_some h) fun σ H Q ⟨N, G, γ, r, γ', S, e, q⟩ => by
  unfold oSome at e
  split at e
  · rename_i i γ1 e1
    cases e
    exact ⟨N, G, γ, _, _, S, e1, fun v G1 H1 s1 S1 k1 r1 => ⟨i, r1.rdy.int S1, q G1 H1 s1 S1 k1⟩⟩
  · cases e
/-- what a slice takes -/
def cutT {α : Type} (xs : List α) (lo hi : Option Int) : List α := (xs.drop (HT.sIx xs.length 0 lo)).take (HT.sIx xs.length xs.length hi - HT.sIx xs.length 0 lo)
def gSl : T → Option Int → Option Int → Option T
  | .lst ts, lo, hi => some (.lst (cutT ts lo hi))
  | .tup ts, lo, hi => some (.tup (cutT ts lo hi))
  | _, _, _ => none
def gSlN : T → Option Int → Option Int → Option T
  | .lst ts, lo, hi => some (.lst (cutT ts lo hi))
  | _, _, _ => none
def eSl (g : T → Option Int → Option Int → Option T) (f : Ex) (lo hi : Ox) : Ex := fun γ => (f γ).bind fun p => (lo p.2).bind fun q => (hi q.2).bind fun r => (g p.1 q.1 r.1).map fun z => (z, r.2)
def SlT (K : PySem.W.Frag) (r : V → Option Int → Option Int → Hp → VK → Prop) (m : Bool) (g : T → Option Int → Option Int → Option T) : Prop :=
  ∀ (N : Nt) (G : Hp) (κ : List Bool) (σ : L2.St) (H : Hp) (γ : En) (B : List Nat) (tx tz : T) (lo hi : Option Int) (x : V), Sta K N G κ σ H γ → Rdy K κ G σ γ B tx x → g tx lo hi = some tz →
    ∀ Q : VK, (∀ v G' H', Same G G' → Sta K N G' κ σ H' γ → Rsl K m N κ G' σ H' γ [] tz v → Q v H') → r x lo hi H Q
theorem Reps.cut (r : Reps K G ts vs) (lo hi : Option Int) : Reps K G (cutT ts lo hi) (cutV vs lo hi) := by
  unfold cutT cutV
  rw [r.length]
  exact (r.drop _).take _
theorem cutV_all {xs : List V} {lo hi : Option Int} (h : HT.sIx xs.length 0 lo = 0 ∧ HT.sIx xs.length xs.length hi = xs.length) : cutV xs lo hi = xs := by
  unfold cutV
  rw [h.1, h.2]
  simp
theorem cutT_all {α : Type} {xs : List α} {lo hi : Option Int} (h : HT.sIx xs.length 0 lo = 0 ∧ HT.sIx xs.length xs.length hi = xs.length) : cutT xs lo hi = xs := by
  unfold cutT
  rw [h.1, h.2]
  simp
theorem slt_seq : SlT K (fun x lo hi H Q => rSlL K x lo hi H Q ∨ rSlA K x lo hi H Q) false gSl := by
  intro N G κ σ H γ B tx tz lo hi x S rx e Q q
  unfold gSl at e
  split at e
  · cases e
    obtain ⟨a, vs, rfl, h1, r1⟩ := rx.list S
    refine .inl ⟨a, vs, rfl, .inl (.inl h1), fun p hp => ?_⟩
    obtain ⟨G', s, S', r⟩ := S.listedL hp (r1.cut lo hi)
    exact q _ G' _ s S' (.old r)
  · cases e
    have k1 := Rdy.tupRep rx S
    obtain ⟨a, vs, rfl, h1, r1⟩ := rx.tuple S
    refine .inr ⟨a, vs, rfl, h1, fun z => ?_, fun z p hp => ?_⟩
    · rw [r1.length] at z
      rw [cutT_all z] at q
      exact q _ G H (Same.refl _) S (.old k1)
    · obtain ⟨G', s, S', r⟩ := S.tupled hp (r1.cut lo hi)
      exact q _ G' _ s S' (.old r)
  · cases e
theorem slt_new : SlT K (rSlL K) true gSlN := by
  intro N G κ σ H γ B tx tz lo hi x S rx e Q q
  unfold gSlN at e
  split at e
  · cases e
    obtain ⟨a, vs, rfl, h1, r1⟩ := rx.list S
    refine ⟨a, vs, rfl, .inl (.inl h1), fun p hp => ?_⟩
    obtain ⟨S', r⟩ := S.listed hp (r1.cut lo hi)
    exact q _ G _ (Same.refl _) S' (.new r)
  · cases e
theorem sl_seq : SlR X (fun x lo hi H Q => rSlL X.K x lo hi H Q ∨ rSlA X.K x lo hi H Q) := sl_list.or sl_tupA
theorem sx_sl {r : V → Option Int → Option Int → Hp → VK → Prop} {g : T → Option Int → Option Int → Option T} {lo hi : Option Expr} {p2 : Pos} {l1 l2 : Ox} (hr : SlR X r) (hg : SlT X.K r m g) (he : SX X e false B1 M1 κ f1) (hl : SO X lo M2 κ l1) (hu : SO X hi M3 κ l2)
    (hd : ∀ i, i ∈ B1 → i ∉ M2 := by decide) (hd2 : ∀ i, i ∈ B1 → i ∉ M3 := by decide) : SX X (.Subscript e (.Slice lo hi none p2) pos) m [] (M1 ++ (M2 ++ M3)) κ (eSl g f1 l1 l2) := by
  refine PE.weak (pe_slice hr he hl hu) fun σ H Q ⟨N, G, γ, r, γ', S, ef, q⟩ => ?_
  unfold eSl at ef
  obtain ⟨⟨t1, γ1⟩, e1, ef⟩ := Option.bind_eq_some_iff.mp ef
  obtain ⟨⟨t2, γ2⟩, e2, ef⟩ := Option.bind_eq_some_iff.mp ef
  obtain ⟨⟨t3, γ3⟩, e3, ef⟩ := Option.bind_eq_some_iff.mp ef
  obtain ⟨t4, e4, ef⟩ := Option.map_eq_some_iff.mp ef
  cases ef
  refine ⟨N, G, γ, t1, γ1, S, e1, fun v1 G1 H1 s1 S1 k1 r1 => ⟨N, G1, γ1, t2, γ2, S1, e2, fun G2 H2 s2 S2 k2 => ⟨N, G2, γ2, t3, _, S2, e3, fun G3 H3 s3 S3 k3 => ?_⟩⟩⟩
  have r1' := r1.rdy.mono (s2.trans s3) (γ' := γ3) (B' := B1) (fun i hi => (k3 i (hd2 i hi)).trans (k2 i (hd i hi))) (fun _ h => h)
  exact hg N G3 κ σ H3 γ3 B1 t1 _ t2 t3 v1 S3 r1' e4 Q fun v G4 H4 s4 S4 rs => q v G4 H4 (((s1.trans s2).trans s3).trans s4) S4 (k1.trans (k2.trans k3)) rs
/-- xs[::-1] -/
def gRev : T → Option T
  | .lst ts => some (.lst ts.reverse)
  | _ => none
theorem sx_rev {k : Nat} {p1 p2 p3 : Pos} (he : SX X e false B M κ f) : SX X (.Subscript e (.Slice none none (some (.UnaryOp .USub (.Constant (.int 1) k p1) p2)) p3) pos) true [] M κ (eUn gRev f) :=
  PE.weak (pe_revL he) fun σ H Q ⟨N, G, γ, r, γ', S, ef, q⟩ => by
  unfold eUn at ef
  obtain ⟨⟨t1, γ1⟩, e1, ef⟩ := Option.bind_eq_some_iff.mp ef
  obtain ⟨t4, e4, ef⟩ := Option.map_eq_some_iff.mp ef
  cases ef
  have e5 : ∃ ts, t1 = .lst ts ∧ r = .lst ts.reverse := by
    cases t1 with
    | lst ts => cases e4; exact ⟨ts, rfl, rfl⟩
    | _ => cases e4
  obtain ⟨ts, rfl, rfl⟩ := e5
  refine ⟨N, G, γ, _, _, S, e1, fun v1 G1 H1 s1 S1 k1 r1 => ?_⟩
  obtain ⟨a, vs, rfl, h1, r1⟩ := r1.rdy.list S1
  refine ⟨a, vs, rfl, .inl (.inl h1), fun p hp => ?_⟩
  obtain ⟨S', r⟩ := S1.listed hp r1.reverse
  exact q _ G1 _ s1 S' k1 (.new r)
end
end Tw

namespace Tw
open PySem PySem.Spec PyProof.Rows L2

/-! ### statements -/
inductive Out where
  | nx (γ : En) | rt (t : T) (γ : En) | bk (γ : En) | ct (γ : En)
abbrev Fs := En → Option Out
def RetR (K : PySem.W.Frag) (N : Nt) (rk : Bool) (G H : Hp) (t : T) (v : V) : Prop :=
  if rk then ∃ a o, v = .ref a ∧ G a = none ∧ H a = some o ∧ Ho K G o t ∧ N.H a = none else Rep K G t v
def Fin (K : PySem.W.Frag) (N : Nt) (G : Hp) (κ' κb : List Bool) (rk : Bool) (D : Ends) : Out → Prop
  | .nx γ' => ∀ σ' H' G', Same G G' → Sta K N G' κ' σ' H' γ' → D.nx σ' H'
  | .bk γ' => ∀ σ' H' G', Same G G' → Sta K N G' κb σ' H' γ' → D.bk σ' H'
  | .ct γ' => ∀ σ' H' G', Same G G' → Sta K N G' κb σ' H' γ' → D.ct σ' H'
  | .rt t γ' => ∀ v σ' H' G' κr, Same G G' → Sta K N G' κr σ' H' γ' → RetR K N rk G' H' t v → D.rt v H'
def cS (K : PySem.W.Frag) (κ κ' κb : List Bool) (rk : Bool) (pl : List Nat) (F : Fs) : TS := fun D σ H => ∃ N G γ o, N.pins.map (·.1) = pl ∧ Sta K N G κ σ H γ ∧ F γ = some o ∧ Fin K N G κ' κb rk D o
/-- a statement: κ ahead, κ' behind, κb at break and continue; rk: what is handed back is new; pl: the slots that stay -/
abbrev SS (X : Cx) (st : Stmt) (κ κ' κb : List Bool) (rk : Bool) (pl : List Nat) (F : Fs) : Prop := PS X st (cS X.K κ κ' κb rk pl F)
abbrev SSs (X : Cx) (st : List Stmt) (κ κ' κb : List Bool) (rk : Bool) (pl : List Nat) (F : Fs) : Prop := PSs X st (cS X.K κ κ' κb rk pl F)

def sNx : Fs := fun γ => some (.nx γ)
def sSeq (F1 F2 : Fs) : Fs := fun γ => match F1 γ with
  | some (.nx γ') => F2 γ'
  | o => o
def sKill (i : Nat) (F : Fs) : Fs := fun γ => F (γ.set i none)
def sAsg (i : Nat) (f : Ex) : Fs := fun γ => (f γ).map fun p => .nx (p.2.set i (some p.1))
def sDrop (f : Ex) : Fs := fun γ => (f γ).map fun p => .nx p.2
def sRet (f : Ex) : Fs := fun γ => (f γ).map fun p => .rt p.1 p.2
def sRetN : Fs := fun γ => some (.rt .non γ)
def sBrk : Fs := fun γ => some (.bk γ)
def sCnt : Fs := fun γ => some (.ct γ)
def sIf (c : Tx) (F1 F2 : Fs) : Fs := fun γ => (c γ).bind fun p => if p.1 then F1 p.2 else F2 p.2
def sNo : Fs := fun _ => none

section
variable {X : Cx} {K : PySem.W.Frag} {N : Nt} {G G' H H' : Hp} {σ : L2.St} {γ γ' : En} {ts : List T} {vs : List V} {t : T} {v : V}
variable {κ κ1 κ2 κb : List Bool} {rk : Bool} {pl : List Nat} {F F1 F2 : Fs} {st : Stmt} {rest : List Stmt} {D D' : Ends} {o : Out}
variable {e a b c : Expr} {es : List Expr} {pos p apos cpos pos' : Pos} {m : Bool} {B B1 B2 M M1 M2 M3 : List Nat} {f f1 f2 f3 : Ex} {g1 g2 : Ax} {c1 c2 : Tx} {x name : Str}
theorem Fin.mono (h : Fin K N G κ κb rk D o) (s : Same G G') : Fin K N G' κ κb rk D o := by
  cases o with
  | nx _ => exact fun σ' H' G2 s2 S => h σ' H' G2 (s.trans s2) S
  | bk _ => exact fun σ' H' G2 s2 S => h σ' H' G2 (s.trans s2) S
  | ct _ => exact fun σ' H' G2 s2 S => h σ' H' G2 (s.trans s2) S
  | rt _ _ => exact fun v σ' H' G2 κr s2 S => h v σ' H' G2 κr (s.trans s2) S
theorem sss_nil : SSs X [] κ κ κb rk pl sNx := PSs.weak pss_nil fun D σ H ⟨N, G, γ, o, hp, S, e, q⟩ => by
  cases e
  exact q σ H G (Same.refl _) S
theorem sss_cons (h1 : SS X st κ κ1 κb rk pl F1) (h2 : SSs X rest κ1 κ2 κb rk pl F2) : SSs X (st :: rest) κ κ2 κb rk pl (sSeq F1 F2) := PSs.weak (pss_cons h1 h2) fun D σ H ⟨N, G, γ, o, hp, S, e, q⟩ => by
  unfold sSeq at e
  cases h : F1 γ with
  | none => rw [h] at e; cases e
  | some o1 =>
    rw [h] at e
    refine ⟨N, G, γ, o1, hp, S, h, ?_⟩
    cases o1 with
    | nx γ1 => exact fun σ' H' G' s S' => ⟨N, G', γ1, o, hp, S', e, q.mono s⟩
    | bk _ => cases e; exact q
    | ct _ => cases e; exact q
    | rt _ _ => cases e; exact q
theorem sss_one (h1 : SS X st κ κ1 κb rk pl F1) : SSs X [st] κ κ1 κb rk pl F1 := PSs.weak (pss_one h1) fun D σ H h => h
/-! what is not seen: an owned list lasts from here on; a slot is forgotten -/
theorem Sta.freeze {i : Nat} (S : Sta K N G κ σ H γ) (hp : i ∉ N.pins.map (·.1)) (hk : κ[i]? = some true) : ∃ G', Same G G' ∧ Sta K N G' (κ.set i false) σ H γ := by
  have hlt : i < κ.length := (List.getElem?_eq_some_iff.mp hk).1
  have kne : ∀ j : Nat, j ≠ i → (κ.set i false)[j]? = κ[j]? := fun j hj => List.getElem?_set_ne (Ne.symm hj)
  have ki : (κ.set i false)[i]? = some false := by rw [List.getElem?_set_self hlt]
  have pinK : ∀ p ∈ N.pins, (κ.set i false)[p.1]? = some true ∧ (∃ t : T, γ[p.1]? = some (some t)) ∧ σ[p.1]? = some (some (.ref p.2)) := fun p hm => by
    have hne : p.1 ≠ i := fun z => hp (z ▸ List.mem_map_of_mem (f := (·.1)) hm)
    rw [kne _ hne]
    exact S.pin p hm
  have ownK : ∀ j : Nat, (κ.set i false)[j]? = some true → κ[j]? = some true ∧ j ≠ i := fun j hj => by
    by_cases z : j = i
    · rw [z, ki] at hj; cases hj
    · rw [kne j z] at hj; exact ⟨hj, z⟩
  by_cases hs : ∃ t, γ[i]? = some (some t)
  · obtain ⟨t, ht⟩ := hs
    obtain ⟨a, o, e1, e2, e3, e4, e5⟩ := S.own i t hk ht
    have s1 : Same G (upd G a o) := fun b x e => by rw [upd_ne (ne_of_none e e2)]; exact e
    have e6 : N.H a = none := by
      rcases e5 with e5 | e5
      · exact e5
      · obtain ⟨q, hq, rfl⟩ := List.mem_map.mp e5
        obtain ⟨k, ⟨u, hu⟩, hs⟩ := S.pin q hq
        have := S.sep _ _ _ _ _ hk k ht hu e1 hs
        exact absurd (this ▸ List.mem_map_of_mem (f := (·.1)) hq) hp
    refine ⟨_, s1, ⟨fun b x e => ?_, S.len, fun j u k g => ?_, fun j u k g => ?_, fun j l u w b k1 k2 => S.sep j l u w b (ownK j k1).1 (ownK l k2).1, by rw [List.length_set]; exact S.klen, pinK, S.frm, S.gle.trans s1, fun b hb => ?_⟩⟩
    · by_cases hb : b = a
      · subst hb; rw [upd_same] at e; cases e; exact e3
      · rw [upd_ne hb] at e; exact S.le _ _ e
    · by_cases z : j = i
      · subst z
        rw [ht] at g; cases g
        exact ⟨_, e1, (e4.mono s1).rep upd_same⟩
      · rw [kne j z] at k
        obtain ⟨v, q1, q2⟩ := S.shr j u k g
        exact ⟨v, q1, q2.mono s1⟩
    · obtain ⟨k', z⟩ := ownK j k
      obtain ⟨b, o', q1, q2, q3, q4, q5⟩ := S.own j u k' g
      refine ⟨b, o', q1, ?_, q3, q4.mono s1, q5⟩
      rw [upd_ne]
      · exact q2
      · rintro rfl
        exact z (S.sep _ _ _ _ _ k' hk g ht q1 e1)
    · by_cases hb' : b = a
      · subst hb'; exact .inr e6
      · rw [upd_ne hb'] at hb; exact S.gfr b hb
  · refine ⟨G, Same.refl _, ⟨S.le, S.len, fun j u k g => ?_, fun j u k g => S.own j u (ownK j k).1 g, fun j l u w b k1 k2 => S.sep j l u w b (ownK j k1).1 (ownK l k2).1, by rw [List.length_set]; exact S.klen, pinK, S.frm, S.gle, S.gfr⟩⟩
    by_cases z : j = i
    · subst z; exact absurd ⟨u, g⟩ hs
    · rw [kne j z] at k; exact S.shr j u k g
theorem sss_freeze (i : Nat) (h : SSs X rest (κ.set i false) κ2 κb rk pl F) (hk : κ[i]? = some true := by rfl) (hp : i ∉ pl := by decide) : SSs X rest κ κ2 κb rk pl F := PSs.weak h fun D σ H ⟨N, G, γ, o, hp', S, e, q⟩ => by
  obtain ⟨G', s, S'⟩ := S.freeze (hp' ▸ hp) hk
  exact ⟨N, G', γ, o, hp', S', e, q.mono s⟩
theorem Sta.kill {i : Nat} {k : Bool} (S : Sta K N G κ σ H γ) (hp : i ∉ N.pins.map (·.1)) : Sta K N G (κ.set i k) σ H (γ.set i none) := by
  have gne : ∀ (j : Nat) (t : T), (γ.set i none)[j]? = some (some t) → j ≠ i ∧ γ[j]? = some (some t) := fun j t g => by
    by_cases z : j = i
    · subst z
      by_cases hl : j < γ.length
      · rw [List.getElem?_set_self hl] at g; cases g
      · rw [List.getElem?_eq_none (by simpa using hl)] at g; cases g
    · rw [List.getElem?_set_ne (Ne.symm z)] at g; exact ⟨z, g⟩
  have kne : ∀ j : Nat, j ≠ i → (κ.set i k)[j]? = κ[j]? := fun j hj => List.getElem?_set_ne (Ne.symm hj)
  refine ⟨S.le, by rw [List.length_set]; exact S.len, fun j u k g => ?_, fun j u k g => ?_, fun j l u w b k1 k2 g1 g2 => ?_, by rw [List.length_set, List.length_set]; exact S.klen, fun p hm => ?_, S.frm, S.gle, S.gfr⟩
  · obtain ⟨z, g⟩ := gne j u g
    rw [kne j z] at k
    exact S.shr j u k g
  · obtain ⟨z, g⟩ := gne j u g
    rw [kne j z] at k
    exact S.own j u k g
  · obtain ⟨z1, g1⟩ := gne j u g1
    obtain ⟨z2, g2⟩ := gne l w g2
    rw [kne j z1] at k1
    rw [kne l z2] at k2
    exact S.sep j l u w b k1 k2 g1 g2
  · have hne : p.1 ≠ i := fun z => hp (z ▸ List.mem_map_of_mem (f := (·.1)) hm)
    obtain ⟨q1, ⟨t, q2⟩, q3⟩ := S.pin p hm
    rw [kne _ hne]
    exact ⟨q1, ⟨t, by rw [List.getElem?_set_ne (Ne.symm hne)]; exact q2⟩, q3⟩
theorem sss_kill (i : Nat) (k : Bool) (h : SSs X rest (κ.set i k) κ2 κb rk pl F) (hp : i ∉ pl := by decide) : SSs X rest κ κ2 κb rk pl (sKill i F) := PSs.weak h fun D σ H ⟨N, G, γ, o, hp', S, e, q⟩ =>
  ⟨N, G, γ.set i none, o, hp', S.kill (hp' ▸ hp), e, q⟩

/-! ### stores -/
theorem Sta.store {i : Nat} (S : Sta K N G κ σ H γ) (hi : i < γ.length) (hp : i ∉ N.pins.map (·.1)) (r : Rep K G t v) : Sta K N G (κ.set i false) (σ.set i (some v)) H (γ.set i (some t)) := by
  have hs : i < σ.length := by rw [← S.len]; exact hi
  have hκ : i < κ.length := by rw [S.klen]; exact hi
  have ki : (κ.set i false)[i]? = some false := by rw [List.getElem?_set_self hκ]
  have own : ∀ j : Nat, (κ.set i false)[j]? = some true → κ[j]? = some true ∧ j ≠ i := fun j hj => by
    by_cases z : j = i
    · rw [z, ki] at hj; cases hj
    · rw [List.getElem?_set_ne (Ne.symm z)] at hj; exact ⟨hj, z⟩
  refine ⟨S.le, by rw [List.length_set, List.length_set]; exact S.len, fun j u k g => ?_, fun j u k g => ?_, fun j l u w b k1 k2 g1 g2 q1 q2 => ?_, by rw [List.length_set, List.length_set]; exact S.klen, fun p hm => ?_, S.frm, S.gle, S.gfr⟩
  · by_cases z : j = i
    · subst z
      rw [List.getElem?_set_self hi] at g
      cases g
      exact ⟨v, by rw [List.getElem?_set_self hs], r⟩
    · rw [List.getElem?_set_ne (Ne.symm z)] at k g ⊢
      exact S.shr j u k g
  · obtain ⟨k, z⟩ := own j k
    rw [List.getElem?_set_ne (Ne.symm z)] at g ⊢
    exact S.own j u k g
  · obtain ⟨k1, z1⟩ := own j k1
    obtain ⟨k2, z2⟩ := own l k2
    rw [List.getElem?_set_ne (Ne.symm z1)] at g1 q1
    rw [List.getElem?_set_ne (Ne.symm z2)] at g2 q2
    exact S.sep j l u w b k1 k2 g1 g2 q1 q2
  · have hne : p.1 ≠ i := fun z => hp (z ▸ List.mem_map_of_mem (f := (·.1)) hm)
    rw [List.getElem?_set_ne (Ne.symm hne), List.getElem?_set_ne (Ne.symm hne), List.getElem?_set_ne (Ne.symm hne)]
    exact S.pin p hm
theorem Sta.storeO {i : Nat} (S : Sta K N G κ σ H γ) (hi : i < γ.length) (hp : i ∉ N.pins.map (·.1)) (r : Fre K N κ G σ H γ t v) : Sta K N G (κ.set i true) (σ.set i (some v)) H (γ.set i (some t)) := by
  have hs : i < σ.length := by rw [← S.len]; exact hi
  have hκ : i < κ.length := by rw [S.klen]; exact hi
  obtain ⟨a, o, rfl, h1, h2, h3, h4, h5⟩ := r
  refine ⟨S.le, by rw [List.length_set, List.length_set]; exact S.len, fun j u k g => ?_, fun j u k g => ?_, fun j l u w b k1 k2 g1 g2 q1 q2 => ?_, by rw [List.length_set, List.length_set]; exact S.klen, fun p hm => ?_, S.frm, S.gle, S.gfr⟩
  · by_cases z : j = i
    · subst z
      rw [List.getElem?_set_self hκ] at k
      cases k
    · rw [List.getElem?_set_ne (Ne.symm z)] at k g ⊢
      exact S.shr j u k g
  · by_cases z : j = i
    · subst z
      rw [List.getElem?_set_self hi] at g
      cases g
      exact ⟨a, o, by rw [List.getElem?_set_self hs], h1, h2, h3, .inl h4⟩
    · rw [List.getElem?_set_ne (Ne.symm z)] at k g ⊢
      exact S.own j u k g
  · by_cases z1 : j = i
    · by_cases z2 : l = i
      · rw [z1, z2]
      · subst z1
        rw [List.getElem?_set_self hs] at q1
        rw [List.getElem?_set_ne (Ne.symm z2)] at k2 g2 q2
        cases q1
        exact absurd q2 (h5 l w k2 g2)
    · rw [List.getElem?_set_ne (Ne.symm z1)] at k1 g1 q1
      by_cases z2 : l = i
      · subst z2
        rw [List.getElem?_set_self hs] at q2
        cases q2
        exact absurd q1 (h5 j u k1 g1)
      · rw [List.getElem?_set_ne (Ne.symm z2)] at k2 g2 q2
        exact S.sep j l u w b k1 k2 g1 g2 q1 q2
  · have hne : p.1 ≠ i := fun z => hp (z ▸ List.mem_map_of_mem (f := (·.1)) hm)
    rw [List.getElem?_set_ne (Ne.symm hne), List.getElem?_set_ne (Ne.symm hne), List.getElem?_set_ne (Ne.symm hne)]
    exact S.pin p hm
theorem len_of {i : Nat} (S : Sta K N G κ σ H γ) (hk : i < κ.length) : i < γ.length := by rw [← S.klen]; exact hk
theorem ss_asg (i : Nat) (he : SX X e false [] M κ f) (hN : X.N.Nodup) (hi : X.N[i]? = some x := by rfl) (hx : Loc X.env.scope x := by first | exact Or.inl rfl | exact Or.inr rfl) (hk : i < κ.length := by decide) (hp : i ∉ pl := by decide)
    (hs : swapsWith e (some (.Name x pos')) pos.line X.env = pure false := by rfl) (hf : X.fn x = true ∨ X.env.scope.names.lookup x = some .local := by first | exact .inl rfl | exact .inr rfl) :
    SS X (.Assign [.Name x pos'] e pos) κ (κ.set i false) κb rk pl (sAsg i f) := PS.weak (ps_set hN hi hx he hs hf) fun D σ H ⟨N, G, γ, o, hp', S, ef, q⟩ => by
  unfold sAsg at ef
  obtain ⟨⟨t1, γ1⟩, e1, ef⟩ := Option.map_eq_some_iff.mp ef
  cases ef
  exact ⟨N, G, γ, t1, γ1, S, e1, fun v G1 H1 s1 S1 k1 r1 => q _ H1 G1 s1 (S1.store (len_of S1 hk) (hp' ▸ hp) r1.rdy.rep)⟩
theorem ss_asgO (i : Nat) (he : SX X e true B M κ f) (hN : X.N.Nodup) (hi : X.N[i]? = some x := by rfl) (hx : Loc X.env.scope x := by first | exact Or.inl rfl | exact Or.inr rfl) (hk : i < κ.length := by decide) (hp : i ∉ pl := by decide)
    (hs : swapsWith e (some (.Name x pos')) pos.line X.env = pure false := by rfl) (hf : X.fn x = true ∨ X.env.scope.names.lookup x = some .local := by first | exact .inl rfl | exact .inr rfl) :
    SS X (.Assign [.Name x pos'] e pos) κ (κ.set i true) κb rk pl (sAsg i f) := PS.weak (ps_set hN hi hx he hs hf) fun D σ H ⟨N, G, γ, o, hp', S, ef, q⟩ => by
  unfold sAsg at ef
  obtain ⟨⟨t1, γ1⟩, e1, ef⟩ := Option.map_eq_some_iff.mp ef
  cases ef
  exact ⟨N, G, γ, t1, γ1, S, e1, fun v G1 H1 s1 S1 k1 r1 => q _ H1 G1 s1 (S1.storeO (len_of S1 hk) (hp' ▸ hp) r1.fre)⟩
theorem ss_drop (he : SX X e m B M κ f) (hs : swapsWith e none pos.line X.env = pure false := by rfl) : SS X (.Expr e pos) κ κ κb rk pl (sDrop f) := PS.weak (ps_expr he hs) fun D σ H ⟨N, G, γ, o, hp', S, ef, q⟩ => by
  unfold sDrop at ef
  obtain ⟨⟨t1, γ1⟩, e1, ef⟩ := Option.map_eq_some_iff.mp ef
  cases ef
  exact ⟨N, G, γ, t1, γ1, S, e1, fun v G1 H1 s1 S1 k1 r1 => q _ H1 G1 s1 S1⟩
theorem ss_ret (he : SX X e false [] M κ f) : SS X (.Return (some e) pos) κ κ1 κb false pl (sRet f) := PS.weak (ps_ret he) fun D σ H ⟨N, G, γ, o, hp', S, ef, q⟩ => by
  unfold sRet at ef
  obtain ⟨⟨t1, γ1⟩, e1, ef⟩ := Option.map_eq_some_iff.mp ef
  cases ef
  refine ⟨N, G, γ, t1, γ1, S, e1, fun v G1 H1 s1 S1 k1 r1 => q v σ H1 G1 κ s1 S1 ?_⟩
  unfold RetR
  rw [if_neg (by decide)]
  exact r1.rdy.rep
theorem ss_retO (he : SX X e true B M κ f) : SS X (.Return (some e) pos) κ κ1 κb true pl (sRet f) := PS.weak (ps_ret he) fun D σ H ⟨N, G, γ, o, hp', S, ef, q⟩ => by
  unfold sRet at ef
  obtain ⟨⟨t1, γ1⟩, e1, ef⟩ := Option.map_eq_some_iff.mp ef
  cases ef
  refine ⟨N, G, γ, t1, γ1, S, e1, fun v G1 H1 s1 S1 k1 r1 => q v σ H1 G1 κ s1 S1 ?_⟩
  unfold RetR
  rw [if_pos rfl]
  obtain ⟨a, o, h1, h2, h3, h4, h5, _⟩ := r1.fre
  exact ⟨a, o, h1, h2, h3, h4, h5⟩
/-- return of an owned name -/
theorem ss_retV (i : Nat) (hk : κ[i]? = some true := by rfl) (hp : i ∉ pl := by decide) (hN : X.N[i]? = some x := by rfl) (hv : Vis X.env.scope x := by first | exact Or.inl rfl | exact Or.inr (Or.inl rfl) | exact Or.inr (Or.inr rfl))
    (hd : (x == ("__debug__" : Str)) = false := by decide) (hcd : (x == ("__classdict__" : Str)) = false := by decide) : SS X (.Return (some (.Name x p)) pos) κ κ1 κb true pl (sRet (eVar i)) :=
  PS.weak (ps_ret (pe_var hN hv hd hcd)) fun D σ H ⟨N, G, γ, o, hp', S, ef, q⟩ => by
  unfold sRet at ef
  obtain ⟨⟨t1, γ1⟩, e1, ef⟩ := Option.map_eq_some_iff.mp ef
  cases ef
  obtain ⟨h1, h2⟩ := eVar_some e1
  obtain ⟨a, ob, q1, q2, q3, q4, q5⟩ := S.own i t1 hk h1
  refine ⟨_, q1, q _ σ H G κ (Same.refl _) (h2 ▸ S) ?_⟩
  unfold RetR
  rw [if_pos rfl]
  refine ⟨a, ob, rfl, q2, q3, q4, ?_⟩
  rcases q5 with q5 | q5
  · exact q5
  · obtain ⟨z, hz, rfl⟩ := List.mem_map.mp q5
    obtain ⟨k, ⟨u, hu⟩, hs⟩ := S.pin z hz
    have := S.sep _ _ _ _ _ hk k h1 hu q1 hs
    exact absurd (this ▸ List.mem_map_of_mem (f := (·.1)) hz) (hp' ▸ hp)
theorem ss_retN : SS X (.Return none pos) κ κ1 κb false pl sRetN := PS.weak ps_retN fun D σ H ⟨N, G, γ, o, hp', S, ef, q⟩ => by
  cases ef
  refine q _ σ H G κ (Same.refl _) S ?_
  unfold RetR
  rw [if_neg (by decide)]
  exact .non
theorem ss_pass : SS X (.Pass pos) κ κ κb rk pl sNx := PS.weak ps_pass fun D σ H ⟨N, G, γ, o, hp', S, ef, q⟩ => by
  cases ef
  exact q σ H G (Same.refl _) S
theorem ss_break : SS X (.Break pos) κ κ1 κ rk pl sBrk := PS.weak ps_break fun D σ H ⟨N, G, γ, o, hp', S, ef, q⟩ => by
  cases ef
  exact q σ H G (Same.refl _) S
theorem ss_continue : SS X (.Continue pos) κ κ1 κ rk pl sCnt := PS.weak ps_continue fun D σ H ⟨N, G, γ, o, hp', S, ef, q⟩ => by
  cases ef
  exact q σ H G (Same.refl _) S
theorem ss_no : SS X st κ κ1 κb rk pl sNo := PS.weak ps_never fun D σ H ⟨N, G, γ, o, hp', S, ef, q⟩ => by cases ef
theorem ss_if {as bs : List Stmt} (hc : ST X c M κ c1) (ha : SSs X as κ κ1 κb rk pl F1) (hb : SSs X bs κ κ1 κb rk pl F2) : SS X (.If c as bs pos) κ κ1 κb rk pl (sIf c1 F1 F2) := PS.weak (ps_if hc ha hb) fun D σ H ⟨N, G, γ, o, hp', S, ef, q⟩ => by
  unfold sIf at ef
  obtain ⟨⟨k, γ1⟩, e1, ef⟩ := Option.bind_eq_some_iff.mp ef
  refine ⟨N, G, γ, k, γ1, S, e1, fun G1 H1 s1 S1 k1 => ?_⟩
  cases k with
  | true =>
    rw [if_pos rfl] at ef ⊢
    exact ⟨N, G1, γ1, o, hp', S1, ef, q.mono s1⟩
  | false =>
    dsimp only at ef
    rw [if_neg Bool.false_ne_true] at ef ⊢
    exact ⟨N, G1, γ1, o, hp', S1, ef, q.mono s1⟩
end

/-! ### while -/
def whileN (c : Tx) (F : Fs) : Nat → Fs
  | 0, _ => none
  | n + 1, γ => (c γ).bind fun p => if p.1 then (match F p.2 with
      | some (.nx γ') => whileN c F n γ'
      | some (.ct γ') => whileN c F n γ'
      | some (.bk γ') => some (.nx γ')
      | o => o) else some (.nx p.2)
open Classical in
noncomputable def sWhile (c : Tx) (F : Fs) : Fs := fun γ => if h : ∃ o, ∃ n, whileN c F n γ = some o then some h.choose else none
theorem whileN_mono {c : Tx} {F : Fs} : ∀ {n : Nat} {γ : En} {o : Out}, whileN c F n γ = some o → ∀ m, n ≤ m → whileN c F m γ = some o
  | 0, _, _, h, _, _ => by cases h
  | n + 1, γ, o, h, 0, hm => absurd hm (by omega)
  | n + 1, γ, o, h, m + 1, hm => by
    unfold whileN at h ⊢
    cases hc : c γ with
    | none => rw [hc] at h; cases h
    | some p =>
      rw [hc] at h
      simp only [Option.bind_some] at h ⊢
      split
      · rename_i hp
        rw [if_pos hp] at h
        cases hf : F p.2 with
        | none => rw [hf] at h; cases h
        | some q =>
          rw [hf] at h
          cases q with
          | nx γ' => exact whileN_mono h m (by omega)
          | ct γ' => exact whileN_mono h m (by omega)
          | bk γ' => exact h
          | rt _ _ => exact h
      · rename_i hp
        rw [if_neg hp] at h
        exact h
theorem sWhile_of {c : Tx} {F : Fs} {n : Nat} {γ : En} {o : Out} (h : whileN c F n γ = some o) : sWhile c F γ = some o := by
  unfold sWhile
  have hx : ∃ o, ∃ n, whileN c F n γ = some o := ⟨o, n, h⟩
  rw [dif_pos hx]
  obtain ⟨m, hm⟩ := hx.choose_spec
  have h1 := whileN_mono hm (max m n) (Nat.le_max_left _ _)
  have h2 := whileN_mono h (max m n) (Nat.le_max_right _ _)
  rw [h2] at h1
  rw [← Option.some.inj h1]
theorem sWhile_to {c : Tx} {F : Fs} {γ : En} {o : Out} (h : sWhile c F γ = some o) : ∃ n, whileN c F n γ = some o := by
  unfold sWhile at h
  split at h
  · rename_i hx
    obtain ⟨m, hm⟩ := hx.choose_spec
    cases h
    exact ⟨m, hm⟩
  · cases h
section
variable {X : Cx} {K : PySem.W.Frag} {N : Nt} {G G' H H' : Hp} {σ : L2.St} {γ γ' : En} {ts : List T} {vs : List V} {t : T} {v : V}
variable {κ κ1 κ2 κb : List Bool} {rk : Bool} {pl : List Nat} {F F1 F2 : Fs} {st : Stmt} {rest body : List Stmt} {D D' : Ends} {o : Out}
variable {e a b c : Expr} {es : List Expr} {pos p apos cpos pos' : Pos} {m : Bool} {B B1 B2 M M1 M2 M3 : List Nat} {f f1 f2 f3 : Ex} {g1 g2 : Ax} {c1 c2 : Tx} {x name : Str}
theorem ss_while (hp : PassesOwn (model X.prog X.w) X.A X.env X.xe) (hc : ST X c M κ c1) (hb : SSs X body κ κ κ rk pl F) : SS X (.While c body [] pos) κ κ κb rk pl (sWhile c1 F) := PS.weak (ps_while hp hc hb) fun D σ H ⟨N, G, γ, o, hp', S, ef, q⟩ => by
  obtain ⟨n, hn⟩ := sWhile_to ef
  refine ⟨fun n σ H => ∃ G1 γ1, Same G G1 ∧ Sta X.K N G1 κ σ H γ1 ∧ whileN c1 F n γ1 = some o, ⟨n, G, γ, Same.refl _, S, hn⟩, fun n σ H ⟨G1, γ1, s1, S1, h1⟩ => ?_⟩
  cases n with
  | zero => cases h1
  | succ n =>
    unfold whileN at h1
    obtain ⟨⟨k, γ2⟩, e1, h1⟩ := Option.bind_eq_some_iff.mp h1
    refine ⟨N, G1, γ1, k, γ2, S1, e1, fun G2 H2 s2 S2 k2 => ?_⟩
    cases k with
    | false =>
      dsimp only at h1
      rw [if_neg Bool.false_ne_true] at h1 ⊢
      cases h1
      exact q _ _ G2 (s1.trans s2) S2
    | true =>
      dsimp only at h1
      rw [if_pos rfl] at h1 ⊢
      refine ⟨fun σ H => ∃ G1 γ1, Same G G1 ∧ Sta X.K N G1 κ σ H γ1 ∧ whileN c1 F n γ1 = some o, fun σ' H' h => ⟨n, by omega, h⟩, ?_⟩
      cases hF : F γ2 with
      | none => rw [hF] at h1; cases h1
      | some o2 =>
        rw [hF] at h1
        refine ⟨N, G2, γ2, o2, hp', S2, hF, ?_⟩
        cases o2 with
        | nx γ3 => exact fun σ' H' G3 s3 S3 => ⟨G3, γ3, (s1.trans s2).trans s3, S3, h1⟩
        | ct γ3 => exact fun σ' H' G3 s3 S3 => ⟨G3, γ3, (s1.trans s2).trans s3, S3, h1⟩
        | bk γ3 => cases h1; exact fun σ' H' G3 s3 S3 => q σ' H' G3 ((s1.trans s2).trans s3) S3
        | rt t γ3 => cases h1; exact fun v σ' H' G3 κr s3 S3 => q v σ' H' G3 κr ((s1.trans s2).trans s3) S3

/-! ### for -/
def forL (tg : T → En → Option En) (F : Fs) : List T → Fs
  | [], γ => some (.nx γ)
  | t :: ts, γ => (tg t γ).bind fun γ1 => match F γ1 with
      | some (.nx γ') => forL tg F ts γ'
      | some (.ct γ') => forL tg F ts γ'
      | some (.bk γ') => some (.nx γ')
      | o => o
abbrev Ix := En → Option (List T × En)
def sFor (src : Ix) (tg : T → En → Option En) (F : Fs) : Fs := fun γ => (src γ).bind fun p => forL tg F p.1 p.2
/-- J walks the items, while what it stands on is as it was -/
def Wk (K : PySem.W.Frag) (κ : List Bool) (σ : L2.St) (γ : En) (B : List Nat) (items : List T) (G : Hp) (J : It) : Prop :=
  ∀ (i : Nat) (N1 : Nt) (G1 : Hp) (κ1 : List Bool) (σ1 : L2.St) (H1 : Hp) (γ1 : En), Same G G1 → Sta K N1 G1 κ1 σ1 H1 γ1 → (∀ j : Nat, j ∈ B → κ1[j]? = some true ∧ γ1[j]? = γ[j]? ∧ σ1[j]? = σ[j]?) →
    (∀ t, items[i]? = some t → J.go i H1 ∧ ∀ x H2, J.yld i H1 x H2 → ∃ G2, Same G1 G2 ∧ Sta K N1 G2 κ1 σ1 H2 γ1 ∧ Rep K G2 t x) ∧ (items.length ≤ i → J.stop i H1)
def cI (K : PySem.W.Frag) (B M : List Nat) (κ : List Bool) (f : Ix) : TI := fun σ H R => ∃ N G γ r γ', Sta K N G κ σ H γ ∧ f γ = some (r, γ') ∧
  ∀ J G' H', Same G G' → Sta K N G' κ σ H' γ' → Keeps M γ γ' → Wk K κ σ γ' B r G' J → R J H'
abbrev SI (X : Cx) (tg e : Expr) (B M : List Nat) (κ : List Bool) (f : Ix) : Prop := PI X tg e (cI X.K B M κ f)
/-- a target -/
def cG (K : PySem.W.Frag) (L : List Nat) (κ κ' : List Bool) (tg : T → En → Option En) : TG := fun v σ H Q => ∃ N G γ t γ', (∀ j : Nat, j ∈ L → j ∉ N.pins.map (·.1)) ∧ Sta K N G κ σ H γ ∧ Rep K G t v ∧ tg t γ = some γ' ∧
  ∀ σ', Sta K N G κ' σ' H γ' → (∀ j : Nat, j ∉ L → σ'[j]? = σ[j]? ∧ γ'[j]? = γ[j]?) → Q σ' H
abbrev SG (X : Cx) (e : Expr) (L : List Nat) (κ κ' : List Bool) (tg : T → En → Option En) : Prop := PG X e (cG X.K L κ κ' tg)
def tgN (i : Nat) : T → En → Option En := fun t γ => some (γ.set i (some t))
theorem sg_name (i : Nat) (hN : X.N.Nodup) (hi : X.N[i]? = some x := by rfl) (hx : Loc X.env.scope x := by first | exact Or.inl rfl | exact Or.inr rfl) (hk : i < κ.length := by decide)
    (hf : X.fn x = true ∨ X.env.scope.names.lookup x = some .local := by first | exact .inl rfl | exact .inr rfl) : SG X (.Name x pos) [i] κ (κ.set i false) (tgN i) := PG.weak (pg_name hN hi hx hf) fun v σ H Q ⟨N, G, γ, t, γ', hp', S, r, e, q⟩ => by
  cases e
  refine q _ (S.store (len_of S hk) (hp' i (by simp)) r) fun j hj => ?_
  have : j ≠ i := by simpa using hj
  rw [List.getElem?_set_ne (Ne.symm this), List.getElem?_set_ne (Ne.symm this)]
  exact ⟨rfl, rfl⟩
theorem Keeps.of_pl {M : List Nat} (h : Keeps M γ γ') : Keeps M γ γ' := h
theorem forL_walk {J : It} {tg : T → En → Option En} {g : TG} {tb : TS} {items : List T} {γ0 : En} {G0 : Hp} (hg : ∀ v σ H Q, cG X.K B1 κ κ1 tg v σ H Q → g v σ H Q) (hL : ∀ j : Nat, j ∈ B1 → j ∉ pl) (hb : ∀ D σ H, cS X.K κ1 κ κ rk pl F D σ H → tb D σ H)
    (hw : Wk X.K κ σ γ0 [] items G0 J) (hpl : N.pins.map (·.1) = pl) (S : Sta X.K N G0 κ σ H γ0) (ho : forL tg F items γ0 = some o) (q : Fin X.K N G0 κ κb rk D o) :
    ∃ W : Nat → Nat → L2.St → Hp → Prop, (∃ m, W 0 m σ H) ∧ ∀ i m σ H, W i m σ H →
      (J.stop i H ∧ D.nx σ H) ∨ (J.go i H ∧ ∃ N : L2.St → Hp → Prop, (∀ σ' H', N σ' H' → ∃ m', m' < m ∧ W (i + 1) m' σ' H') ∧ ∀ x H', J.yld i H x H' → g x σ H' fun σ2 H2 => tb { D with nx := N, ct := N, bk := D.nx } σ2 H2) := by
  refine ⟨fun i m σ H => m + i = items.length ∧ ∃ G1 γ1, Same G0 G1 ∧ Sta X.K N G1 κ σ H γ1 ∧ forL tg F (items.drop i) γ1 = some o, ⟨items.length, rfl, G0, γ0, Same.refl _, S, by simpa using ho⟩, fun i m σ1 H1 ⟨hm, G1, γ1, s1, S1, h1⟩ => ?_⟩
  obtain ⟨w1, w2⟩ := hw i N G1 κ σ1 H1 γ1 s1 S1 (fun j hj => by cases hj)
  by_cases hi : i < items.length
  · have hit : items[i]? = some items[i] := List.getElem?_eq_getElem hi
    obtain ⟨wg, wy⟩ := w1 _ hit
    refine .inr ⟨wg, fun σ' H' => (m - 1) + (i + 1) = items.length ∧ ∃ G1 γ1, Same G0 G1 ∧ Sta X.K N G1 κ σ' H' γ1 ∧ forL tg F (items.drop (i + 1)) γ1 = some o, fun σ' H' h => ⟨m - 1, by omega, h⟩, fun x H2 hy => ?_⟩
    obtain ⟨G2, s2, S2, r2⟩ := wy x H2 hy
    rw [List.drop_eq_getElem_cons hi] at h1
    unfold forL at h1
    obtain ⟨γ2, e2, h1⟩ := Option.bind_eq_some_iff.mp h1
    refine hg _ _ _ _ ⟨N, G2, γ1, _, γ2, fun j hj => hpl ▸ hL j hj, S2, r2, e2, fun σ3 S3 _ => hb _ _ _ ?_⟩
    cases hF : F γ2 with
    | none => rw [hF] at h1; cases h1
    | some o2 =>
      rw [hF] at h1
      refine ⟨N, G2, γ2, o2, hpl, S3, hF, ?_⟩
      cases o2 with
      | nx γ3 => exact fun σ' H' G3 s3 S3 => ⟨by omega, G3, γ3, (s1.trans s2).trans s3, S3, h1⟩
      | ct γ3 => exact fun σ' H' G3 s3 S3 => ⟨by omega, G3, γ3, (s1.trans s2).trans s3, S3, h1⟩
      | bk γ3 => cases h1; exact fun σ' H' G3 s3 S3 => q σ' H' G3 ((s1.trans s2).trans s3) S3
      | rt t γ3 => cases h1; exact fun v σ' H' G3 κr s3 S3 => q v σ' H' G3 κr ((s1.trans s2).trans s3) S3
  · refine .inl ⟨w2 (by omega), ?_⟩
    rw [List.drop_eq_nil_of_le (by omega)] at h1
    cases h1
    exact q _ _ G1 s1 S1
theorem ss_for {tge iter : Expr} {tg : T → En → Option En} {src : Ix} (hp : PassesOwn (model X.prog X.w) X.A X.env X.xe) (hc : X.calm = true) (hi : SI X tge iter [] M κ src) (hg : SG X tge B1 κ κ1 tg) (hb : SSs X body κ1 κ κ rk pl F) (hL : ∀ j : Nat, j ∈ B1 → j ∉ pl := by decide)
    (hs : ∀ x, foldedSetIterable iter X.env x = pure x := by intro _; rfl) : SS X (.For tge iter body [] pos) κ κ κb rk pl (sFor src tg F) := PS.weak (ps_for hp hc hi hg hb hs) fun D σ H ⟨N, G, γ, o, hp', S, ef, q⟩ => by
  unfold sFor at ef
  obtain ⟨⟨items, γ1⟩, e1, ef⟩ := Option.bind_eq_some_iff.mp ef
  refine ⟨N, G, γ, items, γ1, S, e1, fun J G1 H1 s1 S1 k1 w1 => ?_⟩
  exact forL_walk (fun _ _ _ _ h => h) hL (fun _ _ _ h => h) w1 hp' S1 ef (q.mono s1)
/-- over a list or a tuple that lasts -/
def iSeq (f : Ex) : Ix := fun γ => match f γ with
  | some (.lst ts, γ') => some (ts, γ')
  | _ => none
def iTupl (f : Ex) : Ix := fun γ => match f γ with
  | some (.tup ts, γ') => some (ts, γ')
  | _ => none
def iOld (f : Ex) : Ix := fun γ => match f γ with
  | some (.old ts, γ') => some (ts, γ')
  | _ => none
theorem wk_list {a : Addr} {vs : List V} {ts : List T} {G : Hp} (h : G a = some (.lst vs)) (r : Reps K G ts vs) : Wk K κ σ γ B ts G (Itl K a) := by
  intro i N1 G1 κ1 σ1 H1 γ1 s S _
  have hq : SqL K H1 a vs := .inl (.inl (S.le _ _ (s _ _ h)))
  refine ⟨fun t ht => ?_, fun hi => ⟨vs, hq, by rw [r.length]; exact hi⟩⟩
  obtain ⟨v, h1, h2⟩ := r.get ht
  refine ⟨⟨vs, v, hq, h1⟩, fun x H2 ⟨e, hy⟩ => ?_⟩
  subst e
  have := hy vs hq
  rw [h1] at this
  cases this
  exact ⟨G1, Same.refl _, S, h2.mono s⟩
theorem wk_old {a : Addr} {vs : List V} {ts : List T} {G : Hp} (h : SqL K G a vs) (r : Reps K G ts vs) : Wk K κ σ γ B ts G (Itl K a) := by
  intro i N1 G1 κ1 σ1 H1 γ1 s S _
  have hq : SqL K H1 a vs := S.le.seq (s.seq h)
  refine ⟨fun t ht => ?_, fun hi => ⟨vs, hq, by rw [r.length]; exact hi⟩⟩
  obtain ⟨v, h1, h2⟩ := r.get ht
  refine ⟨⟨vs, v, hq, h1⟩, fun x H2 ⟨e, hy⟩ => ?_⟩
  subst e
  have := hy vs hq
  rw [h1] at this
  cases this
  exact ⟨G1, Same.refl _, S, h2.mono s⟩
theorem wk_tup {a : Addr} {vs : List V} {ts : List T} {G : Hp} (h : SqT K G a vs) (r : Reps K G ts vs) : Wk K κ σ γ B ts G (Itt K a) := by
  intro i N1 G1 κ1 σ1 H1 γ1 s S _
  have hq : SqT K H1 a vs := Same.tup S.le (Same.tup s h)
  refine ⟨fun t ht => ?_, fun hi => ⟨vs, hq, by rw [r.length]; exact hi⟩⟩
  obtain ⟨v, h1, h2⟩ := r.get ht
  refine ⟨⟨vs, v, hq, h1⟩, fun x H2 ⟨e, hy⟩ => ?_⟩
  subst e
  have := hy vs hq
  rw [h1] at this
  cases this
  exact ⟨G1, Same.refl _, S, h2.mono s⟩
theorem si_list {tge : Expr} (h : SX X e false [] M κ f) : SI X tge e [] M κ (iSeq f) := PI.weak (pi_list h) fun σ H R ⟨N, G, γ, r, γ', S, ef, q⟩ => by
  unfold iSeq at ef
  split at ef
  · rename_i ts γ1 e1
    cases ef
    refine ⟨N, G, γ, _, _, S, e1, fun v G1 H1 s1 S1 k1 r1 => ?_⟩
    have r2 := r1.rdy.rep
    unfold Rep at r2
    obtain ⟨a, vs, rfl, h1, h2⟩ := r2
    exact ⟨a, rfl, ⟨vs, .inl (.inl (S1.le _ _ h1))⟩, q _ G1 H1 s1 S1 k1 (wk_list h1 h2)⟩
  · cases ef
theorem si_old {tge : Expr} (h : SX X e false [] M κ f) : SI X tge e [] M κ (iOld f) := PI.weak (pi_list h) fun σ H R ⟨N, G, γ, r, γ', S, ef, q⟩ => by
  unfold iOld at ef
  split at ef
  · rename_i ts γ1 e1
    cases ef
    refine ⟨N, G, γ, _, _, S, e1, fun v G1 H1 s1 S1 k1 r1 => ?_⟩
    have r2 := r1.rdy.rep
    unfold Rep at r2
    obtain ⟨a, vs, rfl, h1, h2⟩ := r2
    exact ⟨a, rfl, ⟨vs, S1.le.seq h1⟩, q _ G1 H1 s1 S1 k1 (wk_old h1 h2)⟩
  · cases ef
theorem si_tup {tge : Expr} (h : SX X e false [] M κ f) : SI X tge e [] M κ (iTupl f) := PI.weak (pi_tup h) fun σ H R ⟨N, G, γ, r, γ', S, ef, q⟩ => by
  unfold iTupl at ef
  split at ef
  · rename_i ts γ1 e1
    cases ef
    refine ⟨N, G, γ, _, _, S, e1, fun v G1 H1 s1 S1 k1 r1 => ?_⟩
    have r2 := r1.rdy.rep
    unfold Rep at r2
    obtain ⟨a, vs, rfl, h1, h2⟩ := r2
    exact ⟨a, rfl, ⟨vs, Same.tup S1.le h1⟩, q _ G1 H1 s1 S1 k1 (wk_tup h1 h2)⟩
  · cases ef
/-- over an owned list that stays as it is -/
theorem wk_rdy {v : V} {ts : List T} (S0 : Sta K N G κ σ H γ) (r : Rdy K κ G σ γ B (.lst ts) v) : ∃ a vs, v = .ref a ∧ SqL K H a vs ∧ Wk K κ σ γ B ts G (Itl K a) := by
  rcases r with r | ⟨j, hj, k, g, e⟩
  · unfold Rep at r
    obtain ⟨a, vs, e, s, q⟩ := r
    exact ⟨a, vs, e, .inl (.inl (S0.le _ _ s)), wk_list s q⟩
  · obtain ⟨a, o, e1, _, e3, ⟨vs0, rfl, q0⟩, _⟩ := S0.own j _ k g
    rw [e] at e1
    cases e1
    refine ⟨a, vs0, rfl, .inl (.inl e3), fun i N1 G1 κ1 σ1 H1 γ1 s S hB => ?_⟩
    obtain ⟨b1, b2, b3⟩ := hB j hj
    rw [g] at b2
    rw [e] at b3
    obtain ⟨a', o', q1, _, q3, ⟨vs, rfl, r⟩, _⟩ := S.own j _ b1 b2
    rw [b3] at q1
    cases q1
    have hq : SqL K H1 a vs := .inl (.inl q3)
    refine ⟨fun t ht => ?_, fun hi => ⟨vs, hq, by rw [r.length]; exact hi⟩⟩
    obtain ⟨v, h1, h2⟩ := r.get ht
    refine ⟨⟨vs, v, hq, h1⟩, fun x H2 ⟨e, hy⟩ => ?_⟩
    subst e
    have := hy vs hq
    rw [h1] at this
    cases this
    exact ⟨G1, Same.refl _, S, h2⟩
theorem si_own {tge : Expr} (h : SX X e false B M κ f) : SI X tge e B M κ (iSeq f) := PI.weak (pi_list h) fun σ H R ⟨N, G, γ, r, γ', S, ef, q⟩ => by
  unfold iSeq at ef
  split at ef
  · rename_i ts γ1 e1
    cases ef
    refine ⟨N, G, γ, _, _, S, e1, fun v G1 H1 s1 S1 k1 r1 => ?_⟩
    obtain ⟨a, vs, rfl, h1, h2⟩ := wk_rdy S1 r1.rdy
    exact ⟨a, rfl, ⟨vs, h1⟩, q _ G1 H1 s1 S1 k1 h2⟩
  · cases ef
/-- ranges -/
def rngT (lo : Int) (n : Nat) : List T := (List.range n).map fun k => T.int (lo + (k : Nat))
theorem wk_rng {lo : Int} {n : Nat} : Wk K κ σ γ B (rngT lo n) G (Itr lo n) := by
  intro i N1 G1 κ1 σ1 H1 γ1 s S _
  refine ⟨fun t ht => ?_, fun hi => show n ≤ i by simpa [rngT] using hi⟩
  unfold rngT at ht
  rw [List.getElem?_map] at ht
  by_cases hi : i < n
  · rw [List.getElem?_range hi] at ht
    cases ht
    refine ⟨hi, fun x H2 ⟨e, hy⟩ => ?_⟩
    subst e hy
    exact ⟨G1, Same.refl _, S, .int⟩
  · rw [List.getElem?_eq_none (by simpa using hi)] at ht
    cases ht
def iR1 (a : Ax) : Ix := fun γ => match a γ with
  | some ([.int j], γ') => if -4611686018427387904 ≤ j ∧ j < 4611686018427387904 then some (rngT 0 j.toNat, γ') else none
  | _ => none
def iR2 (a : Ax) : Ix := fun γ => match a γ with
  | some ([.int i, .int j], γ') => if -4611686018427387904 ≤ i ∧ i < 4611686018427387904 ∧ -4611686018427387904 ≤ j ∧ j < 4611686018427387904 then some (rngT i (j - i).toNat, γ') else none
  | _ => none
theorem si_r1 {tge : Expr} (hg : Gl X "range") (hm : X.mg "range" = none) (ha : SA X [a] B M κ g1) (hs : starEach [a] X.env = [(false, eval a X.env)] := by rfl) : SI X tge (.Call (.Name "range" p) [a] [] pos) [] M κ (iR1 g1) :=
  PI.weak (pi_range1 hg hm ha hs) fun σ H R ⟨N, G, γ, r, γ', S, ef, q⟩ => by
  unfold iR1 at ef
  split at ef
  · rename_i j γ1 e1
    split at ef <;> cases ef
    rename_i hj
    refine ⟨N, G, γ, _, _, S, e1, fun vs G1 H1 s1 S1 k1 r1 => ?_⟩
    obtain ⟨v, rfl, r2⟩ := r1.one
    refine ⟨j, by rw [r2.int S1], by omega, by omega, q _ G1 H1 s1 S1 k1 wk_rng⟩
  · cases ef
theorem si_r2 {tge : Expr} (hg : Gl X "range") (hm : X.mg "range" = none) (ha : SA X [a, b] B M κ g1) (hs : starEach [a, b] X.env = [(false, eval a X.env), (false, eval b X.env)] := by rfl) (hs2 : starEach [b] X.env = [(false, eval b X.env)] := by rfl) :
    SI X tge (.Call (.Name "range" p) [a, b] [] pos) [] M κ (iR2 g1) := PI.weak (pi_range2 hg hm ha hs hs2) fun σ H R ⟨N, G, γ, r, γ', S, ef, q⟩ => by
  unfold iR2 at ef
  split at ef
  · rename_i i j γ1 e1
    split at ef <;> cases ef
    rename_i hj
    refine ⟨N, G, γ, _, _, S, e1, fun vs G1 H1 s1 S1 k1 r1 => ?_⟩
    obtain ⟨v, w, rfl, r2, r3⟩ := r1.two
    refine ⟨i, j, by rw [r2.int S1, r3.int S1], hj, q _ G1 H1 s1 S1 k1 wk_rng⟩
  · cases ef
end
end Tw

namespace Tw
open PySem PySem.Spec PyProof.Rows L2

/-! ### defs and their calls -/
/-- what a def reckons: from the arguments, what it hands back and what the changed ones hold behind it -/
abbrev Sem' := List T → Option (T × List T)
def ioA : List Bool → List V → List Addr
  | true :: pk, .ref a :: vs => a :: ioA pk vs
  | _ :: pk, _ :: vs => ioA pk vs
  | _, _ => []
def ArgsE (K : PySem.W.Frag) (G H : Hp) : List Bool → List T → List V → Prop
  | [], ts, vs => ts = [] ∧ vs = []
  | k :: pk, ts, vs => ∃ t ts' v vs', ts = t :: ts' ∧ vs = v :: vs' ∧ (if k then ∃ a o, v = .ref a ∧ G a = none ∧ H a = some o ∧ Ho K G o t else Rep K G t v) ∧ ArgsE K G H pk ts' vs'
def OutsE (K : PySem.W.Frag) (G H : Hp) : List Bool → List T → List V → Prop
  | [], us, _ => us = []
  | true :: pk, us, vs => ∃ u us' v vs', us = u :: us' ∧ vs = v :: vs' ∧ (∃ a o, v = .ref a ∧ G a = none ∧ H a = some o ∧ Ho K G o u) ∧ OutsE K G H pk us' vs'
  | false :: pk, us, vs => ∃ v vs', vs = v :: vs' ∧ OutsE K G H pk us vs'
def ResE (K : PySem.W.Frag) (rk : Bool) (G' H' H : Hp) (t : T) (v : V) : Prop :=
  if rk then ∃ a o, v = .ref a ∧ G' a = none ∧ H' a = some o ∧ Ho K G' o t ∧ H a = none else Rep K G' t v
def spF (K : PySem.W.Frag) (pk : List Bool) (rk : Bool) (F : Sem') : Sp := fun vs H Q _ => ∃ G ts r outs, Same G H ∧ ArgsE K G H pk ts vs ∧ (ioA pk vs).Nodup ∧ F ts = some (r, outs) ∧
  ∀ v G' H', Same G G' → Same G' H' → (∀ a, G' a ≠ none → G a ≠ none ∨ H a = none) → (∀ b o, H b = some o → b ∉ ioA pk vs → H' b = some o) → OutsE K G' H' pk outs vs → ResE K rk G' H' H r v → Q v H'

theorem ArgsE.len {K : PySem.W.Frag} {G H : Hp} : ∀ {pk : List Bool} {ts : List T} {vs : List V}, ArgsE K G H pk ts vs → vs.length = pk.length ∧ ts.length = pk.length
  | [], _, _, ⟨e1, e2⟩ => by rw [e1, e2]; exact ⟨rfl, rfl⟩
  | k :: pk, _, _, ⟨t, ts', v, vs', e1, e2, _, h⟩ => by
    rw [e1, e2, List.length_cons, List.length_cons, List.length_cons, (ArgsE.len h).1, (ArgsE.len h).2]
    exact ⟨rfl, rfl⟩

/-- the arguments of a call: lasting ones, and owned slots that the callee may change -/
inductive Argk (K : PySem.W.Frag) (κ : List Bool) (G : Hp) (σ : L2.St) (γ : En) : List Bool → List Nat → List T → List V → Prop
  | nil : Argk K κ G σ γ [] [] [] []
  | cp {pk io t ts v vs} : Rep K G t v → Argk K κ G σ γ pk io ts vs → Argk K κ G σ γ (false :: pk) io (t :: ts) (v :: vs)
  | io {pk io t ts v vs} {i : Nat} : κ[i]? = some true → γ[i]? = some (some t) → σ[i]? = some (some v) → Argk K κ G σ γ pk io ts vs → Argk K κ G σ γ (true :: pk) (i :: io) (t :: ts) (v :: vs)
def cAK (K : PySem.W.Frag) (pk : List Bool) (io M : List Nat) (κ : List Bool) (f : Ax) : TA := fun σ H Q => ∃ N G γ r γ', Sta K N G κ σ H γ ∧ f γ = some (r, γ') ∧
  ∀ vs G' H', Same G G' → Sta K N G' κ σ H' γ' → Keeps M γ γ' → Argk K κ G' σ γ' pk io r vs → Q vs H'
abbrev SAK (X : Cx) (es : List Expr) (pk : List Bool) (io M : List Nat) (κ : List Bool) (f : Ax) : Prop := PA X es (cAK X.K pk io M κ f)
def setAll : En → List Nat → List T → En
  | γ, i :: io, u :: us => setAll (γ.set i (some u)) io us
  | γ, _, _ => γ
def eOwn (F : Sem') (io : List Nat) (a : Ax) : Ex := fun γ => (a γ).bind fun p => (F p.1).map fun q => (q.1, setAll p.2 io q.2)

section
variable {X : Cx} {K : PySem.W.Frag} {N : Nt} {G G' H H' : Hp} {σ : L2.St} {γ γ' : En} {ts us : List T} {vs : List V} {t : T} {v : V}
variable {κ κ1 κ2 κb : List Bool} {rk : Bool} {pl io : List Nat} {pk : List Bool} {F F1 F2 : Fs} {st : Stmt} {rest body : List Stmt} {D D' : Ends} {o : Out}
variable {e a b c : Expr} {es : List Expr} {pos p apos cpos pos' : Pos} {m : Bool} {B B1 B2 M M1 M2 M3 : List Nat} {f f1 f2 f3 : Ex} {g1 g2 : Ax} {c1 c2 : Tx} {x name : Str}
theorem sak_nil : SAK X [] [] [] [] κ aNil := PA.weak pa_nil fun σ H Q ⟨N, G, γ, r, γ', S, ef, q⟩ => by
  cases ef
  exact q [] G H (Same.refl _) S (.refl _ _) .nil
theorem sak_cp (ha : SX X e false [] M1 κ f) (hr : SAK X es pk io M2 κ g1) (hs : starEach (e :: es) X.env = (false, eval e X.env) :: starEach es X.env := by rfl) :
    SAK X (e :: es) (false :: pk) io (M1 ++ M2) κ (aCons f g1) := PA.weak (pa_cons ha hr hs) fun σ H Q ⟨N, G, γ, r, γ', S, ef, q⟩ => by
  unfold aCons at ef
  obtain ⟨⟨t1, γ1⟩, e1, ef⟩ := Option.bind_eq_some_iff.mp ef
  obtain ⟨⟨t2, γ2⟩, e2, ef⟩ := Option.map_eq_some_iff.mp ef
  cases ef
  refine ⟨N, G, γ, t1, γ1, S, e1, fun v1 G1 H1 s1 S1 k1 r1 => ⟨N, G1, γ1, t2, γ2, S1, e2, fun vs G2 H2 s2 S2 k2 r2 => ?_⟩⟩
  exact q (v1 :: vs) G2 H2 (s1.trans s2) S2 (k1.trans k2) (.cp (r1.rdy.rep.mono s2) r2)
/-- a changed slot, as it stands when all arguments are there -/
def aIo (i : Nat) (a : Ax) : Ax := fun γ => (eVar i γ).bind fun _ => (a γ).bind fun p => (eVar i p.2).map fun q => (q.1 :: p.1, p.2)
theorem sak_io (i : Nat) (hr : SAK X es pk io M2 κ g1) (hk : κ[i]? = some true := by rfl) (hN : X.N[i]? = some x := by rfl) (hv : Vis X.env.scope x := by first | exact Or.inl rfl | exact Or.inr (Or.inl rfl) | exact Or.inr (Or.inr rfl))
    (hdb : (x == ("__debug__" : Str)) = false := by decide) (hcd : (x == ("__classdict__" : Str)) = false := by decide) (hs : starEach (.Name x p :: es) X.env = (false, eval (.Name x p) X.env) :: starEach es X.env := by rfl) :
    SAK X (.Name x p :: es) (true :: pk) (i :: io) M2 κ (aIo i g1) := PA.weak (pa_cons (pe_var hN hv hdb hcd) hr hs) fun σ H Q ⟨N, G, γ, r, γ', S, ef, q⟩ => by
  unfold aIo at ef
  obtain ⟨⟨t1, γ1⟩, e1, ef⟩ := Option.bind_eq_some_iff.mp ef
  obtain ⟨⟨t2, γ2⟩, e2, ef⟩ := Option.bind_eq_some_iff.mp ef
  obtain ⟨⟨t3, γ3⟩, e3, ef⟩ := Option.map_eq_some_iff.mp ef
  cases ef
  obtain ⟨h1, rfl⟩ := eVar_some e1
  obtain ⟨h3, rfl⟩ := eVar_some e3
  obtain ⟨ad, ob, h2, _⟩ := S.own i t1 hk h1
  refine ⟨_, h2, N, G, _, t2, _, S, e2, fun vs G2 H2 s2 S2 k2 r2 => ?_⟩
  exact q _ G2 H2 s2 S2 k2 (.io hk h3 h2 r2)
theorem Argk.argsE (S : Sta K N G κ σ H γ) : ∀ {pk : List Bool} {io : List Nat} {ts : List T} {vs : List V}, Argk K κ G σ γ pk io ts vs → ArgsE K G H pk ts vs
  | _, _, _, _, .nil => ⟨rfl, rfl⟩
  | _, _, _, _, .cp r h => ⟨_, _, _, _, rfl, rfl, by rw [if_neg (by decide)]; exact r, Argk.argsE S h⟩
  | _, _, _, _, .io k g s h => by
    obtain ⟨a, ob, e1, e2, e3, e4, _⟩ := S.own _ _ k g
    rw [s] at e1
    cases e1
    exact ⟨_, _, _, _, rfl, rfl, by rw [if_pos rfl]; exact ⟨a, ob, rfl, e2, e3, e4⟩, Argk.argsE S h⟩
theorem Argk.ioA_mem (S : Sta K N G κ σ H γ) : ∀ {pk : List Bool} {io : List Nat} {ts : List T} {vs : List V}, Argk K κ G σ γ pk io ts vs →
    ∀ b ∈ ioA pk vs, ∃ i t, i ∈ io ∧ κ[i]? = some true ∧ γ[i]? = some (some t) ∧ σ[i]? = some (some (.ref b))
  | _, _, _, _, .nil, b, hb => by cases hb
  | _, _, _, _, .cp (v := v) (pk := pk') (vs := vs') r h, b, hb => by
    have : b ∈ ioA pk' vs' := by cases v <;> exact hb
    exact Argk.ioA_mem S h b this
  | _, _, _, _, .io k g s h, b, hb => by
    obtain ⟨a, ob, e1, e2, e3, e4, _⟩ := S.own _ _ k g
    rw [s] at e1
    cases e1
    rcases List.mem_cons.mp hb with rfl | hb
    · exact ⟨_, _, List.mem_cons_self, k, g, s⟩
    · obtain ⟨i, t, hi, h'⟩ := Argk.ioA_mem S h b hb
      exact ⟨i, t, List.mem_cons_of_mem _ hi, h'⟩
theorem Argk.nodup (S : Sta K N G κ σ H γ) : ∀ {pk : List Bool} {io : List Nat} {ts : List T} {vs : List V}, Argk K κ G σ γ pk io ts vs → io.Nodup → (ioA pk vs).Nodup
  | _, _, _, _, .nil, _ => List.nodup_nil
  | _, _, _, _, .cp (v := v) r h, hn => by
    have := Argk.nodup S h hn
    cases v <;> exact this
  | _, _, _, _, .io k g s h, hn => by
    obtain ⟨a, ob, e1, e2, e3, e4, _⟩ := S.own _ _ k g
    rw [s] at e1
    cases e1
    obtain ⟨h1, h2⟩ := List.nodup_cons.mp hn
    refine List.nodup_cons.mpr ⟨fun hb => ?_, Argk.nodup S h h2⟩
    obtain ⟨i, t, hi, k', g', s'⟩ := Argk.ioA_mem S h a hb
    exact h1 (S.sep _ _ _ _ _ k k' g g' s s' ▸ hi)
theorem setAll_ne : ∀ {io : List Nat} {us : List T} {γ : En} {j : Nat}, j ∉ io → (setAll γ io us)[j]? = γ[j]?
  | [], _, _, _, _ => rfl
  | _ :: _, [], _, _, _ => rfl
  | i :: io, u :: us, γ, j, hj => by
    show (setAll (γ.set i (some u)) io us)[j]? = _
    rw [setAll_ne fun h => hj (List.mem_cons_of_mem _ h), List.getElem?_set_ne]
    rintro rfl
    exact hj List.mem_cons_self
theorem setAll_length : ∀ {io : List Nat} {us : List T} {γ : En}, (setAll γ io us).length = γ.length
  | [], _, _ => rfl
  | _ :: _, [], _ => rfl
  | i :: io, u :: us, γ => by
    show (setAll (γ.set i (some u)) io us).length = _
    rw [setAll_length, List.length_set]
/-- behind a call: what stands in the changed slots -/
theorem Argk.outs (S : Sta K N G κ σ H γ) : ∀ {pk : List Bool} {io : List Nat} {ts us : List T} {vs : List V} {γ1 : En}, Argk K κ G σ γ pk io ts vs → io.Nodup → OutsE K G' H' pk us vs → γ1.length = γ.length →
    ∀ j, j ∈ io → ∃ u a o, (setAll γ1 io us)[j]? = some (some u) ∧ σ[j]? = some (some (.ref a)) ∧ G' a = none ∧ H' a = some o ∧ Ho K G' o u
  | _, _, _, _, _, _, .nil, _, _, _, j, hj => by cases hj
  | _, _, _, _, _, _, .cp r h, hn, ho, hl, j, hj => by
    obtain ⟨v', vs', e, ho⟩ := ho
    cases e
    exact Argk.outs S h hn ho hl j hj
  | _, _, _, _, _, γ1, .io (i := i) (io := io') k g s h, hn, ho, hl, j, hj => by
    obtain ⟨u, us', v', vs', rfl, e, ⟨a, ob, rfl, o1, o2, o3⟩, ho⟩ := ho
    cases e
    obtain ⟨h1, h2⟩ := List.nodup_cons.mp hn
    by_cases z : j ∈ io'
    · exact Argk.outs S h h2 ho (γ1 := γ1.set i (some u)) (by rw [List.length_set]; exact hl) j z
    · have ej : j = i := by
        rcases List.mem_cons.mp hj with rfl | hj
        · rfl
        · exact absurd hj z
      subst ej
      refine ⟨u, a, ob, ?_, s, o1, o2, o3⟩
      show (setAll (γ1.set j (some u)) _ us')[j]? = _
      rw [setAll_ne z, List.getElem?_set_self]
      rw [hl]
      exact (List.getElem?_eq_some_iff.mp g).1
theorem Argk.io_own {pk : List Bool} {io : List Nat} {ts : List T} {vs : List V} (h : Argk K κ G σ γ pk io ts vs) : ∀ j, j ∈ io → κ[j]? = some true ∧ ∃ t, γ[j]? = some (some t) := by
  induction h with
  | nil => intro j hj; cases hj
  | cp _ _ ih => exact ih
  | io k g s _ ih =>
    intro j hj
    rcases List.mem_cons.mp hj with rfl | hj
    · exact ⟨k, _, g⟩
    · exact ih j hj
/-- the state behind a call -/
theorem Sta.called {v : V} {outs : List T} (S : Sta K N G κ σ H γ) (A : Argk K κ G σ γ pk io ts vs) (hn : io.Nodup) (s1 : Same G G') (s2 : Same G' H') (hd : ∀ a, G' a ≠ none → G a ≠ none ∨ H a = none)
    (hk : ∀ b o, H b = some o → b ∉ ioA pk vs → H' b = some o) (ho : OutsE K G' H' pk outs vs) : Sta K N G' κ σ H' (setAll γ io outs) := by
  have nfree : ∀ a, G a = none → H a ≠ none → G' a = none := fun a h1 h2 => by
    cases q : G' a with
    | none => rfl
    | some o =>
      rcases hd a (by rw [q]; simp) with h | h
      · exact absurd h1 h
      · exact absurd h h2
  have io_set : ∀ (j : Nat) u, (setAll γ io outs)[j]? = some (some u) → ∃ u', γ[j]? = some (some u') := fun j u h => by
    by_cases hj : j ∈ io
    · exact (A.io_own j hj).2
    · rw [setAll_ne hj] at h; exact ⟨u, h⟩
  refine ⟨s2, by rw [setAll_length]; exact S.len, fun i t k g => ?_, fun i t k g => ?_, fun i j t u a k1 k2 g1 g2 => ?_, by rw [setAll_length]; exact S.klen, fun q hq => ?_, fun a o h1 h2 => ?_, S.gle.trans s1, fun a ha => ?_⟩
  · have hi : i ∉ io := fun z => by rw [(A.io_own i z).1] at k; cases k
    rw [setAll_ne hi] at g
    obtain ⟨v, e1, e2⟩ := S.shr i t k g
    exact ⟨v, e1, e2.mono s1⟩
  · by_cases hi : i ∈ io
    · obtain ⟨u, a, ob, e1, e2, e3, e4, e5⟩ := A.outs (γ1 := γ) S hn ho rfl i hi
      rw [g] at e1
      cases e1
      obtain ⟨t0, ht0⟩ := (A.io_own i hi).2
      obtain ⟨a', _, q1, _, _, _, q5⟩ := S.own i t0 k ht0
      rw [e2] at q1
      cases q1
      exact ⟨a, ob, e2, e3, e4, e5, q5⟩
    · rw [setAll_ne hi] at g
      obtain ⟨a, ob, e1, e2, e3, e4, e5⟩ := S.own i t k g
      refine ⟨a, ob, e1, nfree a e2 (by rw [e3]; simp), hk a ob e3 fun hb => ?_, e4.mono s1, e5⟩
      obtain ⟨j, u, hj, k', g', s'⟩ := A.ioA_mem S a hb
      exact hi (S.sep _ _ _ _ _ k k' g g' e1 s' ▸ hj)
  · obtain ⟨t', g1⟩ := io_set i t g1
    obtain ⟨u', g2⟩ := io_set j u g2
    exact S.sep i j t' u' a k1 k2 g1 g2
  · obtain ⟨q1, ⟨u, q2⟩, q3⟩ := S.pin q hq
    refine ⟨q1, ?_, q3⟩
    by_cases hi : q.1 ∈ io
    · obtain ⟨u, a, ob, e1, _⟩ := A.outs (γ1 := γ) S hn ho rfl q.1 hi
      exact ⟨u, e1⟩
    · exact ⟨u, by rw [setAll_ne hi]; exact q2⟩
  · refine hk a o (S.frm a o h1 h2) fun hb => ?_
    obtain ⟨j, u, hj, k', g', s'⟩ := A.ioA_mem S a hb
    obtain ⟨a', _, e1, _, _, _, e5⟩ := S.own j u k' g'
    rw [s'] at e1
    cases e1
    rcases e5 with e5 | e5
    · rw [h1] at e5; cases e5
    · exact h2 e5
  · rcases hd a ha with h | h
    · exact S.gfr a h
    · exact .inr (S.fresh h).2.1
theorem sx_own' {CX : CXT} {k : Nat} {fa : Addr} {fd : FuncData} {ps : List Str} {Fm : Sem'} {E : XK} (FO : FnOk X.prog X.w X.K X.mg X.base CX k fa fd ps (spF X.K pk rk Fm)) (hr : Room k X.A) (hg : Gl X x) (hm : X.mg x = some (.ref fa)) (hk : PySem.W.keepIn X.K (.ref fa) = true) (hb : Binds X.K fd ps [])
    (hx : Passes CX X E) (ha : SAK X (e :: es) pk io M κ g1) (hn : io.Nodup := by decide) (hdb : (x == ("__debug__" : Str)) = false := by decide) (he : starEach (e :: es) X.env = (false, eval e X.env) :: starEach es X.env := by rfl) (hpl : (backTo pos (starEach es X.env)).any (·.1) = false := by rfl) :
    SX X (.Call (.Name x p) (e :: es) [] pos) rk [] (M ++ io) κ (eOwn Fm io g1) := PE.weak (pe_call FO hr hg hm hk hb .nil hx ha hdb he hpl) fun σ H Q ⟨N, G, γ, r, γ', S, ef, q⟩ => by
  unfold eOwn at ef
  obtain ⟨⟨t1, γ1⟩, e1, ef⟩ := Option.bind_eq_some_iff.mp ef
  obtain ⟨⟨t2, outs⟩, e2, ef⟩ := Option.map_eq_some_iff.mp ef
  cases ef
  refine ⟨N, G, γ, t1, γ1, S, e1, fun vs G1 H1 s1 S1 k1 A => ?_⟩
  show spF X.K pk rk Fm (vs ++ []) H1 Q E
  rw [List.append_nil]
  refine ⟨G1, t1, t2, outs, S1.le, A.argsE S1, A.nodup S1 hn, e2, fun v G2 H2 s2 s3 hd hkp ho hr => ?_⟩
  have S2 := S1.called (v := v) A hn s2 s3 hd hkp ho
  refine q v G2 H2 (s1.trans s2) S2 (fun j hj => ?_) ?_
  · rw [List.mem_append, not_or] at hj
    rw [setAll_ne hj.2]
    exact k1 j hj.1
  · unfold ResE at hr
    unfold Rsl
    cases rk with
    | false =>
      rw [if_neg (by decide)] at hr ⊢
      exact .inl hr
    | true =>
      rw [if_pos rfl] at hr ⊢
      obtain ⟨a, ob, rfl, h1, h2, h3, h4⟩ := hr
      refine ⟨a, ob, rfl, h1, h2, h3, (S1.fresh h4).2.1, fun i u k g e => ?_⟩
      have : ∃ u', γ1[i]? = some (some u') := by
        by_cases hi : i ∈ io
        · exact (A.io_own i hi).2
        · rw [setAll_ne hi] at g; exact ⟨u, g⟩
      obtain ⟨u', g'⟩ := this
      obtain ⟨a', _, e1, _, e3, _⟩ := S1.own i u' k g'
      rw [e] at e1
      cases e1
      rw [h4] at e3
      cases e3

/-! ### a def by its body -/
def plOf : Nat → List Bool → List Nat
  | _, [] => []
  | i, true :: pk => i :: plOf (i + 1) pk
  | i, false :: pk => plOf (i + 1) pk
def outsOf (pl : List Nat) (γ : En) : List T := pl.map fun i => match γ[i]? with
  | some (some t) => t
  | _ => .non
/-- n slots, pl those that are handed back -/
def semOf (n : Nat) (pl : List Nat) (F : Fs) : Sem' := fun ts => match F (ts.map some ++ List.replicate (n - ts.length) none) with
  | some (.nx γ') => some (.non, outsOf pl γ')
  | some (.rt t γ') => some (t, outsOf pl γ')
  | _ => none
def pinsOf : Nat → List Bool → List V → List (Nat × Addr)
  | i, true :: pk, .ref a :: vs => (i, a) :: pinsOf (i + 1) pk vs
  | i, _ :: pk, _ :: vs => pinsOf (i + 1) pk vs
  | _, _, _ => []
theorem pinsOf_pl {K : PySem.W.Frag} {G H : Hp} : ∀ {pk : List Bool} {ts : List T} {vs : List V} {i : Nat}, ArgsE K G H pk ts vs → (pinsOf i pk vs).map (·.1) = plOf i pk ∧ (pinsOf i pk vs).map (·.2) = ioA pk vs
  | [], _, _, _, _ => ⟨rfl, rfl⟩
  | true :: pk, _, _, i, ⟨t, ts', v, vs', e1, e2, h1, h⟩ => by
    rw [if_pos rfl] at h1
    obtain ⟨a, ob, rfl, _⟩ := h1
    rw [e2]
    obtain ⟨q1, q2⟩ := pinsOf_pl (i := i + 1) h
    exact ⟨by show i :: _ = _; rw [q1]; rfl, by show a :: _ = _; rw [q2]; rfl⟩
  | false :: pk, _, _, i, ⟨t, ts', v, vs', e1, e2, h1, h⟩ => by
    rw [e2]
    obtain ⟨q1, q2⟩ := pinsOf_pl (i := i + 1) h
    cases v <;> exact ⟨q1, q2⟩
theorem pinsOf_mem {K : PySem.W.Frag} {G H : Hp} : ∀ {pk : List Bool} {ts : List T} {vs : List V} {i : Nat}, ArgsE K G H pk ts vs → ∀ p ∈ pinsOf i pk vs, i ≤ p.1 ∧ pk[p.1 - i]? = some true ∧ (∃ t, ts[p.1 - i]? = some t) ∧ vs[p.1 - i]? = some (.ref p.2)
  | [], _, _, _, _, p, hp => by cases hp
  | true :: pk, _, _, i, ⟨t, ts', v, vs', e1, e2, h1, h⟩, p, hp => by
    rw [if_pos rfl] at h1
    obtain ⟨a, ob, rfl, _⟩ := h1
    rw [e2] at hp ⊢
    rw [e1]
    rcases List.mem_cons.mp hp with rfl | hp
    · refine ⟨Nat.le_refl _, ?_, ⟨t, ?_⟩, ?_⟩ <;> simp
    · obtain ⟨q1, q2, ⟨t', q3⟩, q4⟩ := pinsOf_mem h p hp
      obtain ⟨d, hd⟩ : ∃ d, p.1 - i = d + 1 := ⟨p.1 - i - 1, by omega⟩
      have hd' : p.1 - (i + 1) = d := by omega
      rw [hd'] at q2 q3 q4
      rw [hd]
      exact ⟨by omega, by simpa using q2, ⟨t', by simpa using q3⟩, by simpa using q4⟩
  | false :: pk, _, _, i, ⟨t, ts', v, vs', e1, e2, h1, h⟩, p, hp => by
    rw [e2] at hp ⊢
    rw [e1]
    have hp : p ∈ pinsOf (i + 1) pk vs' := by cases v <;> exact hp
    obtain ⟨q1, q2, ⟨t', q3⟩, q4⟩ := pinsOf_mem h p hp
    obtain ⟨d, hd⟩ : ∃ d, p.1 - i = d + 1 := ⟨p.1 - i - 1, by omega⟩
    have hd' : p.1 - (i + 1) = d := by omega
    rw [hd'] at q2 q3 q4
    rw [hd]
    exact ⟨by omega, by simpa using q2, ⟨t', by simpa using q3⟩, by simpa using q4⟩
theorem ArgsE.get {K : PySem.W.Frag} {G H : Hp} : ∀ {pk : List Bool} {ts : List T} {vs : List V} {i : Nat} {t : T}, ArgsE K G H pk ts vs → ts[i]? = some t → ∃ k v, pk[i]? = some k ∧ vs[i]? = some v ∧ (if k then ∃ a o, v = .ref a ∧ G a = none ∧ H a = some o ∧ Ho K G o t else Rep K G t v)
  | [], _, _, _, _, ⟨e1, e2⟩, ht => by rw [e1] at ht; simp at ht
  | k :: pk, _, _, 0, _, ⟨t, ts', v, vs', e1, e2, h1, h⟩, ht => by
    rw [e1] at ht
    have ht := Option.some.inj ht
    subst ht
    rw [e2]
    exact ⟨k, v, rfl, rfl, h1⟩
  | k :: pk, _, _, i + 1, _, ⟨t, ts', v, vs', e1, e2, h1, h⟩, ht => by
    rw [e1] at ht
    rw [e2]
    obtain ⟨k', v', q1, q2, q3⟩ := ArgsE.get h (i := i) (by simpa using ht)
    exact ⟨k', v', by simpa using q1, by simpa using q2, q3⟩
theorem ioA_get {K : PySem.W.Frag} {G H : Hp} : ∀ {pk : List Bool} {ts : List T} {vs : List V} {i : Nat} {a : Addr}, ArgsE K G H pk ts vs → pk[i]? = some true → vs[i]? = some (.ref a) → a ∈ ioA pk vs
  | [], _, _, _, _, _, h, _ => by simp at h
  | k :: pk, _, _, 0, _, ⟨t, ts', v, vs', e1, e2, h1, h⟩, hk, hv => by
    have : k = true := by simpa using hk
    subst this
    rw [e2] at hv ⊢
    have hv := Option.some.inj hv
    subst hv
    exact List.mem_cons_self
  | k :: pk, _, _, i + 1, _, ⟨t, ts', v, vs', e1, e2, h1, h⟩, hk, hv => by
    rw [e2] at hv ⊢
    have := ioA_get h (i := i) (by simpa using hk) (by simpa using hv)
    cases k <;> cases v <;> first | exact this | exact List.mem_cons_of_mem _ this
theorem ioA_inj {K : PySem.W.Frag} {G H : Hp} : ∀ {pk : List Bool} {ts : List T} {vs : List V} {i j : Nat} {a : Addr}, ArgsE K G H pk ts vs → (ioA pk vs).Nodup → pk[i]? = some true → vs[i]? = some (.ref a) → pk[j]? = some true → vs[j]? = some (.ref a) → i = j
  | [], _, _, _, _, _, _, _, h, _, _, _ => by simp at h
  | k :: pk, _, _, 0, 0, _, _, _, _, _, _, _ => rfl
  | k :: pk, _, _, 0, j + 1, _, ⟨t, ts', v, vs', e1, e2, h1, h⟩, hn, hk, hv, hk2, hv2 => by
    have : k = true := by simpa using hk
    subst this
    rw [e2] at hv hv2 hn
    have hv := Option.some.inj hv
    subst hv
    exact absurd (ioA_get h (i := j) (by simpa using hk2) (by simpa using hv2)) (List.nodup_cons.mp hn).1
  | k :: pk, _, _, i + 1, 0, _, ⟨t, ts', v, vs', e1, e2, h1, h⟩, hn, hk2, hv2, hk, hv => by
    have : k = true := by simpa using hk
    subst this
    rw [e2] at hv hv2 hn
    have hv := Option.some.inj hv
    subst hv
    exact absurd (ioA_get h (i := i) (by simpa using hk2) (by simpa using hv2)) (List.nodup_cons.mp hn).1
  | k :: pk, _, _, i + 1, j + 1, _, ⟨t, ts', v, vs', e1, e2, h1, h⟩, hn, hk, hv, hk2, hv2 => by
    rw [e2] at hv hv2 hn
    have hn : (ioA pk vs').Nodup := by
      cases k <;> cases v <;> first | exact hn | exact (List.nodup_cons.mp hn).2
    rw [ioA_inj h hn (i := i) (j := j) (by simpa using hk) (by simpa using hv) (by simpa using hk2) (by simpa using hv2)]
theorem outsE_of (S : Sta K N G' κ σ H' γ) : ∀ {pk : List Bool} {ts : List T} {vs : List V} {i : Nat}, ArgsE K G H pk ts vs → (∀ p ∈ pinsOf i pk vs, p ∈ N.pins) → OutsE K G' H' pk (outsOf (plOf i pk) γ) vs
  | [], _, _, _, _, _ => rfl
  | true :: pk, _, _, i, ⟨t, ts', v, vs', e1, e2, h1, h⟩, hp => by
    rw [if_pos rfl] at h1
    obtain ⟨a, ob, rfl, _⟩ := h1
    rw [e2] at hp ⊢
    obtain ⟨k, ⟨u, hu⟩, hs⟩ := S.pin (i, a) (hp _ List.mem_cons_self)
    obtain ⟨a', ob', q1, q2, q3, q4, _⟩ := S.own i u k hu
    dsimp only at hs
    rw [hs] at q1
    cases q1
    refine ⟨u, outsOf (plOf (i + 1) pk) γ, _, _, ?_, rfl, ⟨a, ob', rfl, q2, q3, q4⟩, outsE_of S h fun p hq => hp p (List.mem_cons_of_mem _ hq)⟩
    show outsOf (i :: _) γ = _
    unfold outsOf
    rw [List.map_cons]
    dsimp only at hu
    rw [hu]
  | false :: pk, _, _, i, ⟨t, ts', v, vs', e1, e2, h1, h⟩, hp => by
    rw [e2] at hp ⊢
    exact ⟨v, vs', rfl, outsE_of S h fun p hq => hp p (by cases v <;> exact hq)⟩
/-- the state at a def's beginning -/
theorem Sta.begin {n : Nat} (s : Same G H) (A : ArgsE K G H pk ts vs) (hn : (ioA pk vs).Nodup) (hl : pk.length ≤ n) :
    Sta K ⟨H, G, pinsOf 0 pk vs⟩ G (pk ++ List.replicate (n - pk.length) false) (vs.map some ++ List.replicate (n - vs.length) none) H (ts.map some ++ List.replicate (n - ts.length) none) := by
  obtain ⟨l1, l2⟩ := A.len
  have gt : ∀ (i : Nat) (t : T), (ts.map some ++ List.replicate (n - ts.length) none)[i]? = some (some t) → i < ts.length ∧ ts[i]? = some t := fun i t h => by
    by_cases hi : i < ts.length
    · rw [List.getElem?_append_left (by simpa using hi), List.getElem?_map] at h
      exact ⟨hi, by simpa using h⟩
    · rw [List.getElem?_append_right (by simpa using hi), List.getElem?_replicate] at h
      split at h <;> cases h
  have gv : ∀ (i : Nat) (v : V), i < vs.length → vs[i]? = some v → (vs.map some ++ List.replicate (n - vs.length) none)[i]? = some (some v) := fun i v hi h => by
    rw [List.getElem?_append_left (by simpa using hi), List.getElem?_map, h]
    rfl
  have gk : ∀ (i : Nat) (b : Bool), i < pk.length → (pk ++ List.replicate (n - pk.length) false)[i]? = some b → pk[i]? = some b := fun i b hi h => by
    rw [List.getElem?_append_left hi] at h
    exact h
  refine ⟨s, by simp; omega, fun i t k g => ?_, fun i t k g => ?_, fun i j t u a k1 k2 g1 g2 q1 q2 => ?_, by simp; omega, fun p hp => ?_, fun a o h _ => h, Same.refl _, fun a h => .inl h⟩
  · obtain ⟨h1, h2⟩ := gt i t g
    obtain ⟨k', v, q1, q2, q3⟩ := A.get h2
    have := gk i _ (by omega) k
    rw [this] at q1
    cases q1
    exact ⟨v, gv i v (by omega) q2, by simpa using q3⟩
  · obtain ⟨h1, h2⟩ := gt i t g
    obtain ⟨k', v, q1, q2, q3⟩ := A.get h2
    have hk' := gk i _ (by omega) k
    rw [hk'] at q1
    cases q1
    rw [if_pos rfl] at q3
    obtain ⟨a, o, rfl, e1, e2, e3⟩ := q3
    refine ⟨a, o, gv i _ (by omega) q2, e1, e2, e3, .inr ?_⟩
    rw [(pinsOf_pl A).2]
    exact ioA_get A hk' q2
  · obtain ⟨h1, h2⟩ := gt i t g1
    obtain ⟨h3, h4⟩ := gt j u g2
    obtain ⟨_, v, _, p2, _⟩ := A.get h2
    obtain ⟨_, w, _, p4, _⟩ := A.get h4
    rw [gv i v (by omega) p2] at q1
    rw [gv j w (by omega) p4] at q2
    cases q1
    cases q2
    exact ioA_inj A hn (gk i _ (by omega) k1) p2 (gk j _ (by omega) k2) p4
  · obtain ⟨_, q2, ⟨t, q3⟩, q4⟩ := pinsOf_mem A p hp
    rw [Nat.sub_zero] at q2 q3 q4
    have hi := (List.getElem?_eq_some_iff.mp q2).1
    refine ⟨by rw [List.getElem?_append_left hi]; exact q2, ⟨t, ?_⟩, gv _ _ (by omega) q4⟩
    rw [List.getElem?_append_left (by rw [List.length_map]; omega), List.getElem?_map, q3]
    rfl
/-- THE RULE for a def -/
theorem def_ok {P : Program} {w : World} {mg : Str → Option Value} {base : Heap} {qual : Str} {fa : Addr} {fd : FuncData} {Ns ps : List Str} {k : Nat} {κ' : List Bool} (FU : Fun K x qual st fa fd) (sc : FnScope Ns ps (defScope st)) (hl : ps.length = pk.length)
    (hb : ∀ (cdv : Value) (A : Around) (outer : List Env) (s : Shared) (H : Hp) (E : XK), Room k (A.deeper (envOfC qual (defScope st) s.heap.objs.size fa cdv)) →
      SSs (cxOf CX0 P w K mg base Ns qual (defScope st) fa cdv A outer s H E).nox (defBody st) (pk ++ List.replicate (Ns.length - pk.length) false) κ' [] rk (plOf 0 pk) F) (hr : rk = true → ∀ γ γ', F γ ≠ some (.nx γ')) :
    FnOk P w K mg base CX0 (k + 1) fa fd ps (spF K pk rk (semOf Ns.length (plOf 0 pk) F)) := by
  refine FU.ok sc (fun vs H Q E h => ?_) (fun cdv AA outer s H vs Q E hroom h => ?_)
  · obtain ⟨G, ts, r, outs, _, A, _⟩ := h
    rw [A.len.1, hl]
  · obtain ⟨G, ts, r, outs, s1, A, hn, hF, q⟩ := h
    have hlen : pk.length ≤ Ns.length := by
      rw [← hl, ← sc.pre, List.length_take]
      exact Nat.min_le_right _ _
    have S0 := Sta.begin (n := Ns.length) s1 A hn hlen
    refine ⟨_, hb cdv AA outer s H E hroom, ?_⟩
    unfold semOf at hF
    have done : ∀ {t : T} {v : V} {σ' : L2.St} {H' G' : Hp} {κr : List Bool} {γ' : En}, Same G G' → Sta K ⟨H, G, pinsOf 0 pk vs⟩ G' κr σ' H' γ' → RetR K ⟨H, G, pinsOf 0 pk vs⟩ rk G' H' t v → r = t → outs = outsOf (plOf 0 pk) γ' → Q v H' := by
      intro t v σ' H' G' κr γ' s2 S' rr e1 e2
      refine q v G' H' s2 S'.le (fun a ha => S'.gfr a ha) (fun b o h1 h2 => S'.frm b o h1 (by rw [(pinsOf_pl A).2]; exact h2)) ?_ ?_
      · rw [e2]
        exact outsE_of S' A fun p hp => hp
      · rw [e1]
        unfold RetR at rr
        unfold ResE
        exact rr
    have e0 : start Ns vs = vs.map some ++ List.replicate (Ns.length - vs.length) none := rfl
    rw [e0]
    cases hf : F (ts.map some ++ List.replicate (Ns.length - ts.length) none) with
    | none => rw [hf] at hF; cases hF
    | some o =>
      rw [hf] at hF
      refine ⟨⟨H, G, pinsOf 0 pk vs⟩, G, _, o, (pinsOf_pl A).1, S0, hf, ?_⟩
      cases o with
      | nx γ' =>
        cases hF
        intro σ' H' G' s2 S'
        have hrk : rk = false := by
          cases rk with
          | false => rfl
          | true => exact absurd hf (hr rfl _ _)
        subst hrk
        refine done s2 S' (t := .non) (v := .non) ?_ rfl rfl
        unfold RetR
        rw [if_neg (by decide)]
        exact .non
      | rt t γ' =>
        cases hF
        intro v σ' H' G' κr s2 S' rr
        exact done s2 S' rr rfl rfl
      | bk _ => cases hF
      | ct _ => cases hF
end
end Tw

namespace Tw
open PySem PySem.Spec PyProof.Rows L2

/-! ### comprehensions -/
def wipeE (γ : En) : List Nat → En
  | [] => γ
  | i :: own => (wipeE γ own).set i none
/-- the slots of own as they were -/
def backE (γ0 γ : En) : List Nat → En
  | [] => γ
  | i :: own => (backE γ0 γ own).set i (γ0[i]?.getD none)
def tYesT : Tx := fun γ => some (true, γ)
def compL (own : List Nat) (tg : T → En → Option En) (test : Tx) (elt : Ex) : List T → En → List T → Option (List T × En)
  | [], γ, acc => some (acc, γ)
  | t :: ts, γ, acc => (tg t (wipeE γ own)).bind fun γ1 => (test γ1).bind fun p => if p.1 then (elt p.2).bind fun q => if acc.length < sizeLine then compL own tg test elt ts (backE γ q.2 own) (acc ++ [q.1]) else none
      else compL own tg test elt ts (backE γ p.2 own) acc
def eComp (own : List Nat) (src : Ix) (tg : T → En → Option En) (test : Tx) (elt : Ex) : Ex := fun γ => (src γ).bind fun p => (compL own tg test elt p.1 p.2 []).map fun q => (.lst q.1, q.2)

section
variable {X : Cx} {K : PySem.W.Frag} {N N' : Nt} {G G' H H' : Hp} {σ σ' : L2.St} {γ γ' : En} {ts us : List T} {vs : List V} {t : T} {v : V}
variable {κ κ1 κ2 κb : List Bool} {rk : Bool} {pl io own L : List Nat} {pk : List Bool} {F F1 F2 : Fs} {st : Stmt} {rest body : List Stmt} {D D' : Ends} {o : Out}
variable {e a b c : Expr} {es : List Expr} {pos p apos cpos pos' : Pos} {m : Bool} {B B1 B2 M M1 M2 M3 : List Nat} {f f1 f2 f3 : Ex} {g1 g2 : Ax} {c1 c2 : Tx} {x name : Str}
theorem wipeE_len : ∀ own : List Nat, (wipeE γ own).length = γ.length
  | [] => rfl
  | i :: own => by unfold wipeE; rw [List.length_set, wipeE_len own]
theorem wipeE_some {i : Nat} : ∀ {own : List Nat}, (wipeE γ own)[i]? = some (some t) → γ[i]? = some (some t) ∧ i ∉ own
  | [], h => ⟨h, by simp⟩
  | j :: own, h => by
    unfold wipeE at h
    by_cases hi : j = i
    · subst hi
      by_cases hl : j < (wipeE γ own).length
      · rw [List.getElem?_set_self hl] at h; cases h
      · rw [List.getElem?_eq_none (by simpa using hl)] at h; cases h
    · rw [List.getElem?_set_ne hi] at h
      obtain ⟨h1, h2⟩ := wipeE_some h
      exact ⟨h1, by simp only [List.mem_cons, not_or]; exact ⟨fun e => hi e.symm, h2⟩⟩
theorem wipeE_ne {i : Nat} : ∀ {own : List Nat}, i ∉ own → (wipeE γ own)[i]? = γ[i]?
  | [], _ => rfl
  | j :: own, h => by
    unfold wipeE
    rw [List.getElem?_set_ne (fun e => h (by rw [e]; exact List.mem_cons_self)), wipeE_ne fun z => h (List.mem_cons_of_mem _ z)]
theorem wipe_ne {i : Nat} : ∀ {own : List Nat}, i ∉ own → (wipe σ own)[i]? = σ[i]?
  | [], _ => rfl
  | j :: own, h => by
    unfold wipe
    rw [List.getElem?_set_ne (fun e => h (by rw [e]; exact List.mem_cons_self)), wipe_ne fun z => h (List.mem_cons_of_mem _ z)]
theorem backE_len {γ0 : En} : ∀ own : List Nat, (backE γ0 γ own).length = γ.length
  | [] => rfl
  | i :: own => by unfold backE; rw [List.length_set, backE_len own]
theorem backE_ne {γ0 : En} {i : Nat} : ∀ {own : List Nat}, i ∉ own → (backE γ0 γ own)[i]? = γ[i]?
  | [], _ => rfl
  | j :: own, h => by
    unfold backE
    rw [List.getElem?_set_ne (fun e => h (by rw [e]; exact List.mem_cons_self)), backE_ne fun z => h (List.mem_cons_of_mem _ z)]
theorem backE_mem {γ0 : En} {i : Nat} : ∀ {own : List Nat}, i ∈ own → (backE γ0 γ own)[i]? = some (some t) → γ0[i]? = some (some t)
  | j :: own, h, h1 => by
    unfold backE at h1
    by_cases hj : j = i
    · subst hj
      by_cases hl : j < (backE γ0 γ own).length
      · rw [List.getElem?_set_self hl] at h1
        have h2 := Option.some.inj h1
        cases q : γ0[j]? with
        | none => rw [q] at h2; cases h2
        | some w => rw [q] at h2; exact congrArg some h2
      · rw [List.getElem?_eq_none (by simpa using hl)] at h1; cases h1
    · rw [List.getElem?_set_ne hj] at h1
      rcases List.mem_cons.mp h with e | h
      · exact absurd e.symm hj
      · exact backE_mem h h1
/-- less is known of the slots -/
theorem Sta.less (S : Sta K N G κ σ H γ) (hl : σ'.length = σ.length) (hl2 : γ'.length = γ.length) (w : ∀ (i : Nat) (t : T), γ'[i]? = some (some t) → γ[i]? = some (some t) ∧ σ'[i]? = σ[i]?)
    (hp : ∀ p ∈ N.pins, γ'[p.1]? = γ[p.1]? ∧ σ'[p.1]? = σ[p.1]?) : Sta K N G κ σ' H γ' := by
  refine ⟨S.le, by rw [hl, hl2]; exact S.len, fun i t k g => ?_, fun i t k g => ?_, fun i j t u a k1 k2 g1 g2 e1 e2 => ?_, by rw [hl2]; exact S.klen, fun q hq => ?_, S.frm, S.gle, S.gfr⟩
  · obtain ⟨g, e⟩ := w i t g
    rw [e]
    exact S.shr i t k g
  · obtain ⟨g, e⟩ := w i t g
    rw [e]
    exact S.own i t k g
  · obtain ⟨g1, z1⟩ := w i t g1
    obtain ⟨g2, z2⟩ := w j u g2
    rw [z1] at e1
    rw [z2] at e2
    exact S.sep i j t u a k1 k2 g1 g2 e1 e2
  · obtain ⟨h1, h2⟩ := hp q hq
    rw [h1, h2]
    exact S.pin q hq
def pinAt (κ : List Bool) (γ : En) (σ : L2.St) (i : Nat) : Option (Nat × Addr) := match κ[i]?, γ[i]?, σ[i]? with
  | some true, some (some _), some (some (V.ref a)) => some (i, a)
  | _, _, _ => none
theorem wipe_at {j : Nat} : ∀ {own : List Nat}, j ∈ own → (wipe σ own)[j]? = if j < σ.length then some none else none
  | l :: own, h => by
    unfold wipe
    by_cases hl : l = j
    · subst hl
      rw [List.getElem?_set, wipe_length]
      simp
    · rw [List.getElem?_set_ne hl]
      exact wipe_at (by rcases List.mem_cons.mp h with z | z; exact absurd z.symm hl; exact z)
theorem wipe_eq (hl : σ'.length = σ.length) (h : ∀ j : Nat, j ∉ own → σ'[j]? = σ[j]?) : wipe σ' own = wipe σ own := by
  apply List.ext_getElem?
  intro j
  by_cases hj : j ∈ own
  · rw [wipe_at hj, wipe_at hj, hl]
  · rw [wipe_ne hj, wipe_ne hj, h j hj]
theorem backE_at {γ0 : En} {j : Nat} : ∀ {own : List Nat}, j ∈ own → γ.length = γ0.length → (backE γ0 γ own)[j]? = γ0[j]?
  | l :: own, h, hl => by
    unfold backE
    by_cases hlj : l = j
    · subst hlj
      rw [List.getElem?_set, backE_len]
      by_cases hlt : l < γ0.length
      · rw [if_pos rfl, hl, if_pos hlt, List.getElem?_eq_getElem hlt]
        rfl
      · rw [if_pos rfl, hl, if_neg hlt, List.getElem?_eq_none (by omega)]
    · rw [List.getElem?_set_ne hlj]
      exact backE_at (by rcases List.mem_cons.mp h with z | z; exact absurd z.symm hlj; exact z) hl
/-- from here on: what is owned may change, all else stays -/
theorem Sta.reroot (S : Sta K N G κ σ H γ) : ∃ pins, Sta K ⟨H, G, pins⟩ G κ σ H γ ∧ (∀ p ∈ pins, κ[p.1]? = some true) ∧ (∀ p ∈ N.pins, p ∈ pins) ∧
    (∀ a, a ∈ pins.map (·.2) → N.H a = none ∨ a ∈ N.pins.map (·.2)) ∧ (∀ a, a ∈ pins.map (·.2) → G a = none ∧ H a ≠ none) := by
  refine ⟨(List.range κ.length).filterMap (pinAt κ γ σ), ?_⟩
  have mem : ∀ (i : Nat) (a : Addr), (i, a) ∈ ((List.range κ.length).filterMap (pinAt κ γ σ)) ↔ κ[i]? = some true ∧ (∃ t : T, γ[i]? = some (some t)) ∧ σ[i]? = some (some (V.ref a)) := by
    intro i a
    rw [List.mem_filterMap]
    constructor
    · rintro ⟨j, hj, e⟩
      unfold pinAt at e
      split at e
      · rename_i t b h1 h2 h3
        cases e
        exact ⟨h1, ⟨t, h2⟩, h3⟩
      · cases e
    · rintro ⟨h1, ⟨t, h2⟩, h3⟩
      refine ⟨i, List.mem_range.mpr (List.getElem?_eq_some_iff.mp h1).1, ?_⟩
      unfold pinAt
      rw [h1, h2, h3]
  have addr : ∀ a : Addr, a ∈ (((List.range κ.length).filterMap (pinAt κ γ σ)).map (·.2)) → ∃ (i : Nat) (t : T), κ[i]? = some true ∧ γ[i]? = some (some t) ∧ σ[i]? = some (some (V.ref a)) := fun a ha => by
    obtain ⟨⟨i, b⟩, hq, e⟩ := List.mem_map.mp ha
    cases e
    obtain ⟨h1, ⟨t, h2⟩, h3⟩ := (mem i b).mp hq
    exact ⟨i, t, h1, h2, h3⟩
  refine ⟨⟨S.le, S.len, S.shr, fun i t k g => ?_, S.sep, S.klen, fun q hq => (mem q.1 q.2).mp hq, fun a o h _ => h, Same.refl _, fun a h => .inl h⟩, fun q hq => ((mem q.1 q.2).mp hq).1, fun q hq => (mem q.1 q.2).mpr (S.pin q hq), fun a ha => ?_, fun a ha => ?_⟩
  · obtain ⟨a, o, e1, e2, e3, e4, e5⟩ := S.own i t k g
    refine ⟨a, o, e1, e2, e3, e4, .inr (List.mem_map.mpr ⟨(i, a), (mem i a).mpr ⟨k, ⟨t, g⟩, e1⟩, rfl⟩)⟩
  · obtain ⟨i, t, h1, h2, h3⟩ := addr a ha
    obtain ⟨a', o, e1, e2, e3, e4, e5⟩ := S.own i t h1 h2
    rw [h3] at e1
    cases e1
    exact e5
  · obtain ⟨i, t, h1, h2, h3⟩ := addr a ha
    obtain ⟨a', o, e1, e2, e3, e4, e5⟩ := S.own i t h1 h2
    rw [h3] at e1
    cases e1
    exact ⟨e2, by rw [e3]; simp⟩
/-- back to the root before -/
theorem Sta.unroot {pins : List (Nat × Addr)} (S : Sta K N G κ σ H γ) (S1 : Sta K ⟨H, G, pins⟩ G' κ σ' H' γ') (h1 : ∀ p ∈ N.pins, p ∈ pins) (h2 : ∀ a, a ∈ pins.map (·.2) → N.H a = none ∨ a ∈ N.pins.map (·.2)) : Sta K N G' κ σ' H' γ' := by
  refine ⟨S1.le, S1.len, S1.shr, fun i t k g => ?_, S1.sep, S1.klen, fun q hq => S1.pin q (h1 q hq), fun a o e n => ?_, S.gle.trans S1.gle, fun a ha => ?_⟩
  · obtain ⟨a, o, e1, e2, e3, e4, e5⟩ := S1.own i t k g
    refine ⟨a, o, e1, e2, e3, e4, ?_⟩
    rcases e5 with e5 | e5
    · exact .inl (S.fresh e5).2.1
    · exact h2 a e5
  · refine S1.frm a o (S.frm a o e n) fun hb => ?_
    rcases h2 a hb with z | z
    · rw [e] at z; cases z
    · exact n z
  · rcases S1.gfr a ha with z | z
    · exact S.gfr a z
    · exact .inr (S.fresh z).2.1
theorem Sta.wiped (S : Sta K N G κ σ H γ) (hp : ∀ j, j ∈ own → j ∉ N.pins.map (·.1)) : Sta K N G κ (wipe σ own) H (wipeE γ own) := by
  refine S.less (wipe_length σ own) (wipeE_len own) (fun i t g => ?_) fun q hq => ?_
  · obtain ⟨g, n⟩ := wipeE_some g
    exact ⟨g, wipe_ne n⟩
  · have n : q.1 ∉ own := fun z => hp _ z (List.mem_map_of_mem (f := (·.1)) hq)
    exact ⟨wipeE_ne n, wipe_ne n⟩
theorem Sta.backed (S : Sta K N' G κ σ H γ) (S1 : Sta K N G' κ σ' H' γ') (s : Same G G') (hw : wipe σ' own = wipe σ own) (hl : σ'.length = σ.length) (hk : ∀ j, j ∈ own → κ[j]? = some false) : Sta K N G' κ σ H' (backE γ γ' own) := by
  have es : ∀ i : Nat, i ∉ own → σ'[i]? = σ[i]? := fun i hi => by rw [← wipe_ne (σ := σ') hi, hw, wipe_ne hi]
  have set_of : ∀ (i : Nat) (t : T), κ[i]? = some true → (backE γ γ' own)[i]? = some (some t) → γ'[i]? = some (some t) ∧ σ'[i]? = σ[i]? := fun i t k g => by
    have n : i ∉ own := fun z => by rw [hk i z] at k; cases k
    rw [backE_ne n] at g
    exact ⟨g, es i n⟩
  refine ⟨S1.le, by rw [backE_len, S1.len, hl], fun i t k g => ?_, fun i t k g => ?_, fun i j t u a k1 k2 g1 g2 e1 e2 => ?_, by rw [backE_len]; exact S1.klen, fun q hq => ?_, S1.frm, S1.gle, S1.gfr⟩
  · by_cases hi : i ∈ own
    · obtain ⟨v, e1, e2⟩ := S.shr i t k (backE_mem hi g)
      exact ⟨v, e1, e2.mono s⟩
    · rw [backE_ne hi] at g
      rw [← es i hi]
      exact S1.shr i t k g
  · obtain ⟨g, e⟩ := set_of i t k g
    rw [← e]
    exact S1.own i t k g
  · obtain ⟨g1, z1⟩ := set_of i t k1 g1
    obtain ⟨g2, z2⟩ := set_of j u k2 g2
    rw [← z1] at e1
    rw [← z2] at e2
    exact S1.sep i j t u a k1 k2 g1 g2 e1 e2
  · obtain ⟨q1, q2, q3⟩ := S1.pin q hq
    have n : q.1 ∉ own := fun z => by rw [hk _ z] at q1; cases q1
    refine ⟨q1, ?_, by rw [← es _ n]; exact q3⟩
    rw [backE_ne n]
    exact q2
/-- the turns of a comprehension -/
theorem comp_turns {J : It} {tg : T → En → Option En} {g : TG} {test : Tx} {tt : TT} {elt : Ex} {te : TE} {items : List T} {res : List T} {γe : En} {Dd : Addr} {Qd : Hp → Prop}
    (hg : ∀ v σ H Q, cG K L κ κ tg v σ H Q → g v σ H Q) (ht : ∀ σ H Q, cT K M2 κ test σ H Q → tt σ H Q) (he : ∀ σ H Q, cE K false [] M3 κ elt σ H Q → te σ H Q)
    (hL : ∀ j : Nat, j ∈ L → j ∈ own) (hk : ∀ j : Nat, j ∈ own → κ[j]? = some false) (hB : ∀ j : Nat, j ∈ B → j ∉ M2 ∧ j ∉ M3 ∧ j ∉ own)
    (hw : Wk K κ σ γ B items G J) (hBk : ∀ j : Nat, j ∈ B → κ[j]? = some true) (S : Sta K N G κ σ H γ) (hD : H Dd = none) (ho : compL own tg test elt items γ [] = some (res, γe))
    (q2 : ∀ G' H' vs, Same G G' → Sta K N G' κ σ H' γe → Keeps (M2 ++ M3) γ γe → H' Dd = some (.lst vs) → Reps K G' res vs → G' Dd = none → (∀ (j : Nat) (u : T), κ[j]? = some true → γe[j]? = some (some u) → σ[j]? ≠ some (some (V.ref Dd))) → Qd H') :
    ∃ W : Nat → Nat → Hp → Prop, (∃ m, W 0 m (upd H Dd (.lst []))) ∧ ∀ i m H, W i m H →
      (J.stop i H ∧ Qd H) ∨ (J.go i H ∧ ∃ Nx : Hp → Prop, (∀ H', Nx H' → ∃ m', m' < m ∧ W (i + 1) m' H') ∧ ∀ x H', J.yld i H x H' → g x (wipe σ own) H' fun σ2 H2 => wipe σ2 own = wipe σ own ∧ tt σ2 H2 fun b H3 =>
        if b = true then te σ2 H3 fun y H4 => ∃ acc, H4 Dd = some (.lst acc) ∧ acc.length < sizeLine ∧ Nx (upd H4 Dd (.lst (acc ++ [y]))) else Nx H3) := by
  have S0 : Sta K N G κ σ (upd H Dd (.lst [])) γ := S.laid hD
  have hDf := S.fresh hD
  refine ⟨fun i m H1 => m + i = items.length ∧ ∃ G1 γ1 acc vs, Same G G1 ∧ Sta K N G1 κ σ H1 γ1 ∧ Keeps (M2 ++ M3) γ γ1 ∧ H1 Dd = some (.lst vs) ∧ Reps K G1 acc vs ∧ G1 Dd = none ∧ (∀ (j : Nat) (u : T), κ[j]? = some true → γ1[j]? = some (some u) → σ[j]? ≠ some (some (V.ref Dd))) ∧ compL own tg test elt (items.drop i) γ1 acc = some (res, γe),
    ⟨items.length, rfl, G, γ, [], [], Same.refl _, S0, .refl _ _, upd_same, .nil, hDf.1, fun j u k g e => ?_, by simpa using ho⟩, fun i m H1 ⟨hm, G1, γ1, acc, vs, s1, S1, k1, d1, r1, n1, u1, h1⟩ => ?_⟩
  · obtain ⟨a, o, e1, _, e3, _⟩ := S.own j u k g
    rw [e] at e1
    cases e1
    rw [hD] at e3
    cases e3
  obtain ⟨w1, w2⟩ := hw i N G1 κ σ H1 γ1 s1 S1 (fun j hj => ⟨hBk j hj, k1 j (by rw [List.mem_append, not_or]; exact ⟨(hB j hj).1, (hB j hj).2.1⟩), rfl⟩)
  by_cases hi : i < items.length
  · have hit : items[i]? = some items[i] := List.getElem?_eq_getElem hi
    obtain ⟨wg, wy⟩ := w1 _ hit
    refine .inr ⟨wg, fun H1 => (m - 1) + (i + 1) = items.length ∧ ∃ G1 γ1 acc vs, Same G G1 ∧ Sta K N G1 κ σ H1 γ1 ∧ Keeps (M2 ++ M3) γ γ1 ∧ H1 Dd = some (.lst vs) ∧ Reps K G1 acc vs ∧ G1 Dd = none ∧ (∀ (j : Nat) (u : T), κ[j]? = some true → γ1[j]? = some (some u) → σ[j]? ≠ some (some (V.ref Dd))) ∧ compL own tg test elt (items.drop (i + 1)) γ1 acc = some (res, γe),
      fun H' h => ⟨m - 1, by omega, h⟩, fun x H2 hy => ?_⟩
    obtain ⟨pins, R1, p1, p2, p3, p4⟩ := S1.reroot
    obtain ⟨_, p5⟩ := w1 _ hit
    have w1' := hw i ⟨H1, G1, pins⟩ G1 κ σ H1 γ1 s1 R1 (fun j hj => ⟨hBk j hj, k1 j (by rw [List.mem_append, not_or]; exact ⟨(hB j hj).1, (hB j hj).2.1⟩), rfl⟩)
    obtain ⟨G2, s2, R2, r2⟩ := (w1'.1 _ hit).2 x H2 hy
    have hDp : Dd ∉ pins.map (·.2) := fun hb => by
      obtain ⟨⟨j, a⟩, hq, e⟩ := List.mem_map.mp hb
      cases e
      obtain ⟨q1, ⟨u, q2⟩, q3⟩ := R1.pin _ hq
      exact u1 j u q1 q2 q3
    rw [List.drop_eq_getElem_cons hi] at h1
    unfold compL at h1
    obtain ⟨γ2, e2, h1⟩ := Option.bind_eq_some_iff.mp h1
    have nown : ∀ j, j ∈ own → j ∉ pins.map (·.1) := fun j hj hb => by
      obtain ⟨q, hq, e⟩ := List.mem_map.mp hb
      have := p1 q hq
      rw [e, hk j hj] at this
      cases this
    have R2w := R2.wiped nown
    refine hg _ _ _ _ ⟨⟨H1, G1, pins⟩, G2, wipeE γ1 own, _, γ2, fun j hj => nown j (hL j hj), R2w, r2, e2, fun σ2 R3 hσ => ?_⟩
    have l2 : σ2.length = σ.length := by
      have a1 := R2w.len
      have a2 := R3.len
      have a3 := R2w.klen
      have a4 := R3.klen
      rw [wipe_length] at a1
      omega
    have hσ2 : wipe σ2 own = wipe σ own := wipe_eq l2 fun j hj => by rw [(hσ j fun z => hj (hL j z)).1, wipe_ne hj]
    refine ⟨hσ2, ?_⟩
    · obtain ⟨⟨b, γ3⟩, e3, h1⟩ := Option.bind_eq_some_iff.mp h1
      have kw : ∀ j, j ∉ own → γ2[j]? = γ1[j]? := fun j hj => ((hσ j fun z => hj (hL j z)).2).trans (wipeE_ne hj)
      refine ht _ _ _ ⟨⟨H1, G1, pins⟩, G2, γ2, b, γ3, R3, e3, fun G3 H3 s3 R4 k3 => ?_⟩
      have dD : ∀ {G4 H4 γ4}, Sta K ⟨H1, G1, pins⟩ G4 κ σ2 H4 γ4 → H4 Dd = some (.lst vs) ∧ G4 Dd = none := fun {G4 H4 γ4} R => by
        refine ⟨R.frm Dd _ d1 hDp, ?_⟩
        cases z : G4 Dd with
        | none => rfl
        | some o =>
          rcases R.gfr Dd (by rw [z]; simp) with y | y
          · exact absurd n1 y
          · have y' : H1 Dd = none := y
            rw [d1] at y'
            cases y'
      have nD : ∀ {G4 H4 γ4}, Sta K ⟨H1, G1, pins⟩ G4 κ σ H4 γ4 → ∀ (j : Nat) (u : T), κ[j]? = some true → γ4[j]? = some (some u) → σ[j]? ≠ some (some (V.ref Dd)) := fun {G4 H4 γ4} R j u k g e => by
        obtain ⟨a, o, q1, _, _, _, q5⟩ := R.own j u k g
        rw [e] at q1
        cases q1
        rcases q5 with q5 | q5
        · have y' : H1 Dd = none := q5
          rw [d1] at y'
          cases y'
        · exact hDp q5
      have step : ∀ {G4 H4 γ4}, Same G1 G4 → Sta K ⟨H1, G1, pins⟩ G4 κ σ2 H4 γ4 → Sta K ⟨H1, G1, pins⟩ G4 κ σ H4 (backE γ1 γ4 own) := fun {G4 H4 γ4} s R =>
        Sta.backed R1 R s hσ2 l2 hk
      cases b with
      | false =>
        dsimp only at h1 ⊢
        rw [if_neg Bool.false_ne_true] at h1 ⊢
        obtain ⟨y1, y2⟩ := dD R4
        have R5 := step (s2.trans s3) R4
        refine ⟨by omega, G3, _, acc, vs, (s1.trans s2).trans s3, S1.unroot R5 p2 p3, fun j hj => ?_, y1, r1.mono (s2.trans s3), y2, nD R5, h1⟩
        rw [List.mem_append, not_or] at hj
        have l3 : γ3.length = γ1.length := by
          have a1 := R4.klen
          have a2 := R1.klen
          omega
        by_cases hjo : j ∈ own
        · rw [backE_at hjo l3]
          exact k1 j (by rw [List.mem_append, not_or]; exact hj)
        · rw [backE_ne hjo, k3 j hj.1, kw j hjo]
          exact k1 j (by rw [List.mem_append, not_or]; exact hj)
      | true =>
        dsimp only at h1 ⊢
        rw [if_pos rfl] at h1 ⊢
        obtain ⟨⟨y, γ4⟩, e4, h1⟩ := Option.bind_eq_some_iff.mp h1
        refine he _ _ _ ⟨⟨H1, G1, pins⟩, G3, γ3, y, γ4, R4, e4, fun v G4 H4 s4 R5 k4 ry => ?_⟩
        split at h1
        · rename_i hz
          obtain ⟨y1, y2⟩ := dD R5
          have R6 := step ((s2.trans s3).trans s4) R5
          refine ⟨vs, y1, by rw [r1.length]; exact hz, by omega, G4, _, acc ++ [y], vs ++ [v], ((s1.trans s2).trans s3).trans s4, ?_, fun j hj => ?_, upd_same, (r1.mono ((s2.trans s3).trans s4)).append (.cons ry.rdy.rep .nil), y2, nD R6, h1⟩
          · have S6 := S1.unroot R6 p2 p3
            -- D is nobody's
            refine ⟨fun b x e => ?_, S6.len, S6.shr, fun j u k g => ?_, S6.sep, S6.klen, S6.pin, fun b x e n => ?_, S6.gle, S6.gfr⟩
            · rw [upd_ne (fun z => by rw [z, y2] at e; cases e)]
              exact S6.le b x e
            · obtain ⟨a, ob, q1, q2, q3, q4⟩ := S6.own j u k g
              refine ⟨a, ob, q1, q2, ?_, q4⟩
              rw [upd_ne]
              · exact q3
              · rintro rfl; exact nD R6 j u k g q1
            · rw [upd_ne]
              · exact S6.frm b x e n
              · rintro rfl; rw [hDf.2.1] at e; cases e
          · rw [List.mem_append, not_or] at hj
            have l3 : γ4.length = γ1.length := by
              have a1 := R5.klen
              have a2 := R1.klen
              omega
            by_cases hjo : j ∈ own
            · rw [backE_at hjo l3]
              exact k1 j (by rw [List.mem_append, not_or]; exact hj)
            · rw [backE_ne hjo, k4 j hj.2, k3 j hj.1, kw j hjo]
              exact k1 j (by rw [List.mem_append, not_or]; exact hj)
        · cases h1
  · refine .inl ⟨w2 (by omega), ?_⟩
    rw [List.drop_eq_nil_of_le (by omega)] at h1
    cases h1
    exact q2 G1 H1 vs s1 S1 k1 d1 r1 n1 u1

abbrev STs (X : Cx) (ifs : List Expr) (M : List Nat) (κ : List Bool) (f : Tx) : Prop := PTs X ifs (cT X.K M κ f)
theorem PTs.weak {X : Cx} {e : List Expr} {t t' : TT} (h : PTs X e t) (w : ∀ σ H Q, t' σ H Q → t σ H Q) : PTs X e t' := ⟨fun pins s σ H Q I q => h.run pins s σ H Q I (w σ H Q q)⟩
theorem sts_nil : STs X [] [] κ tYesT := PTs.weak pts_nil fun σ H Q ⟨N, G, γ, r, γ', S, e, q⟩ => by
  cases e
  exact q G H (Same.refl _) S (.refl _ _)
theorem sts_one (h : ST X c M κ c1) : STs X [c] M κ c1 := PTs.weak (pts_one h) fun σ H Q q => q
theorem lc_of {wi : TI} {g : TG} {tt : TT} {te : TE} {tg : T → En → Option En} {test : Tx} {elt : Ex} {src : Ix} {M : List Nat}
    (hi : ∀ σ H R, cI K B M κ src σ H R → wi σ H R) (hg : ∀ v σ H Q, cG K L κ κ tg v σ H Q → g v σ H Q) (ht : ∀ σ H Q, cT K M2 κ test σ H Q → tt σ H Q) (he : ∀ σ H Q, cE K false [] M3 κ elt σ H Q → te σ H Q)
    (hL : ∀ j : Nat, j ∈ L → j ∈ own) (hk : ∀ j : Nat, j ∈ own → κ[j]? = some false) (hB : ∀ j : Nat, j ∈ B → j ∉ M2 ∧ j ∉ M3 ∧ j ∉ own) (hBk : ∀ j : Nat, j ∈ B → κ[j]? = some true) :
    ∀ σ H Q, cE K true [] (M ++ (M2 ++ M3)) κ (eComp own src tg test elt) σ H Q → tLc wi g tt te own σ H Q := by
  intro σ H Q ⟨N, G, γ, r, γ', S, ef, q⟩
  unfold eComp at ef
  obtain ⟨⟨items, γ1⟩, e1, ef⟩ := Option.bind_eq_some_iff.mp ef
  obtain ⟨⟨res, γe⟩, e2, ef⟩ := Option.map_eq_some_iff.mp ef
  cases ef
  refine hi _ _ _ ⟨N, G, γ, items, γ1, S, e1, fun J G1 H1 s1 S1 k1 w1 Dd hD => ?_⟩
  refine comp_turns hg ht he hL hk hB w1 hBk S1 hD e2 fun G' H' vs s2 S2 k2 d2 r2 n2 u2 => ?_
  refine q _ G' H' (s1.trans s2) S2 (k1.trans k2) (.new ⟨Dd, _, rfl, n2, d2, ⟨vs, rfl, r2⟩, (S1.fresh hD).2.1, u2⟩)
theorem sx_lc {elt tge iter : Expr} {ifs : List Expr} {scope : Scope} {own' : List (Str × Nat)} {tg : T → En → Option En} {test : Tx} {el : Ex} {src : Ix} {M : List Nat} (hc : X.calm = true) (hN : X.N.Nodup) (hi : SI X tge iter B M κ src) (ok : BlkOk X.N X.env.scope scope own')
    (hg : ∀ (s : Shared) (H : Hp) (C : Addr) (cl : List (Str × Addr)) (fp : List Addr), SG (X.blk s H scope (compEnvC scope cl C X.env) fp) tge L κ κ tg) (ht : ∀ (s : Shared) (H : Hp) (C : Addr) (cl : List (Str × Addr)) (fp : List Addr), STs (X.blk s H scope (compEnvC scope cl C X.env) fp) ifs M2 κ test)
    (he : ∀ (s : Shared) (H : Hp) (C : Addr) (cl : List (Str × Addr)) (fp : List Addr), SX (X.blk s H scope (compEnvC scope cl C X.env) fp) elt false [] M3 κ el)
    (hL : ∀ j, j ∈ L → j ∈ own'.map (·.2) := by decide) (hk : ∀ j, j ∈ own'.map (·.2) → κ[j]? = some false := by decide) (hB : ∀ j, j ∈ B → j ∉ M2 ∧ j ∉ M3 ∧ j ∉ own'.map (·.2) := by decide) (hBk : ∀ j, j ∈ B → κ[j]? = some true := by decide) (hs : ∀ x, foldedSetIterable iter X.env x = pure x := by intro _; rfl) :
    SX X (.ListComp elt [⟨tge, iter, ifs, 0⟩] scope pos) true [] (M ++ (M2 ++ M3)) κ (eComp (own'.map (·.2)) src tg test el) :=
  PE.weak (pe_lc hc hN hi ok hg ht he hs) (lc_of (fun _ _ _ h => h) (fun _ _ _ _ h => h) (fun _ _ _ h => h) (fun _ _ _ h => h) hL hk hB hBk)
/-- name = [..] on one line -/
theorem ss_setLc (i : Nat) {y : Str} {py : Pos} {elt tge iter : Expr} {ifs : List Expr} {scope : Scope} {own' : List (Str × Nat)} {tg : T → En → Option En} {test : Tx} {el : Ex} {src : Ix} {M : List Nat} {spos : Pos} (k : Bool) (hc : X.calm = true) (hN : X.N.Nodup) (hi : SI X tge iter B M κ src) (ok : BlkOk X.N X.env.scope scope own')
    (hg : ∀ (s : Shared) (H : Hp) (C : Addr) (cl : List (Str × Addr)) (fp : List Addr), SG (X.blk s H scope (compEnvC scope cl C X.env) fp) tge L κ κ tg) (ht : ∀ (s : Shared) (H : Hp) (C : Addr) (cl : List (Str × Addr)) (fp : List Addr), STs (X.blk s H scope (compEnvC scope cl C X.env) fp) ifs M2 κ test)
    (he : ∀ (s : Shared) (H : Hp) (C : Addr) (cl : List (Str × Addr)) (fp : List Addr), SX (X.blk s H scope (compEnvC scope cl C X.env) fp) elt false [] M3 κ el)
    (hsw : swapsWith (.ListComp elt [⟨tge, iter, ifs, 0⟩] scope pos) (some (.Name y py)) spos.line X.env = pure true) (hy : X.N[i]? = some y := by rfl) (hyl : X.env.scope.names.lookup y = some .local := by rfl) (hkl : i < κ.length := by decide) (hp : i ∉ pl := by decide)
    (hL : ∀ j, j ∈ L → j ∈ own'.map (·.2) := by decide) (hk : ∀ j, j ∈ own'.map (·.2) → κ[j]? = some false := by decide) (hB : ∀ j, j ∈ B → j ∉ M2 ∧ j ∉ M3 ∧ j ∉ own'.map (·.2) := by decide) (hBk : ∀ j, j ∈ B → κ[j]? = some true := by decide) (hs : ∀ x, foldedSetIterable iter X.env x = pure x := by intro _; rfl) :
    SS X (.Assign [.Name y py] (.ListComp elt [⟨tge, iter, ifs, 0⟩] scope pos) spos) κ (κ.set i k) κb rk pl (sAsg i (eComp (own'.map (·.2)) src tg test el)) :=
  PS.weak (ps_setLc hc hN hy hyl hsw hi ok hg ht he hs) fun D σ H ⟨N, G, γ, o, hp', S, ef, q⟩ => by
  unfold sAsg at ef
  obtain ⟨⟨t1, γ1⟩, e1, ef⟩ := Option.map_eq_some_iff.mp ef
  cases ef
  refine lc_of (M := M) (fun _ _ _ h => h) (fun _ _ _ _ h => h) (fun _ _ _ h => h) (fun _ _ _ h => h) hL hk hB hBk σ H _ ⟨N, G, γ, t1, γ1, S, e1, fun v G1 H1 s1 S1 k1 r1 => ?_⟩
  cases k with
  | true => exact q _ H1 G1 s1 (S1.storeO (len_of S1 hkl) (hp' ▸ hp) r1.fre)
  | false =>
    obtain ⟨G2, s2, S2, rp⟩ := r1.fre.lasts S1
    exact q _ H1 G2 (s1.trans s2) (S2.store (len_of S2 hkl) (hp' ▸ hp) rp)
end
end Tw

namespace Tw
open PySem PySem.Spec PyProof.Rows L2

/-! ### methods that change an owned slot -/
def MutT (K : PySem.W.Frag) (r : V → List V → Hp → VK → Prop) (g : T → List T → Option (T × T)) : Prop :=
  ∀ (N : Nt) (G : Hp) (κ : List Bool) (σ : L2.St) (H : Hp) (γ : En) (ts : List T) (xs : List V) (a : Addr) (o : HO) (t res t' : T), Sta K N G κ σ H γ → Reps K G ts xs → H a = some o → Ho K G o t → g t ts = some (res, t') →
    ∀ Q : VK, (∀ v o', Ho K G o' t' → Rep K G res v → Q v (upd H a o')) → r (.ref a) xs H Q
def isL : T → Bool
  | .lst _ => true
  | _ => false
def isDc : T → Bool
  | .dct _ _ => true
  | _ => false
def eMut (i : Nat) (k : T → Bool) (g : T → List T → Option (T × T)) (a : Ax) : Ex := fun γ => match γ[i]? with
  | some (some t0) => if k t0 then (a γ).bind fun p => match p.2[i]? with
    | some (some t) => (g t p.1).map fun q => (q.1, p.2.set i (some q.2))
    | _ => none else none
  | _ => none

section
variable {X : Cx} {K : PySem.W.Frag} {N N' : Nt} {G G' H H' : Hp} {σ σ' : L2.St} {γ γ' : En} {ts us : List T} {vs : List V} {t u : T} {v : V}
variable {κ κ1 κ2 κb : List Bool} {rk : Bool} {pl io own L : List Nat} {pk : List Bool} {F F1 F2 : Fs} {st : Stmt} {rest body : List Stmt} {D D' : Ends} {o : Out}
variable {e a b c : Expr} {es : List Expr} {pos p q apos cpos pos' : Pos} {m : Bool} {B B1 B2 M M1 M2 M3 : List Nat} {f f1 f2 f3 : Ex} {g1 g2 : Ax} {c1 c2 : Tx} {x name : Str} {id T' : String}
/-- an owned slot's object has changed -/
theorem Sta.changed {i : Nat} {ad : Addr} {o' : HO} (S : Sta K N G κ σ H γ) (hk : κ[i]? = some true) (hg : γ[i]? = some (some t)) (hs : σ[i]? = some (some (.ref ad))) (ho : Ho K G o' u) :
    Sta K N G κ σ (upd H ad o') (γ.set i (some u)) := by
  have hi : i < γ.length := (List.getElem?_eq_some_iff.mp hg).1
  obtain ⟨a', ob, e1, e2, e3, e4, e5⟩ := S.own i t hk hg
  rw [hs] at e1
  cases e1
  have gs : ∀ (j : Nat) (w : T), (γ.set i (some u))[j]? = some (some w) → ∃ w', γ[j]? = some (some w') := fun j w h => by
    by_cases z : i = j
    · subst z; exact ⟨t, hg⟩
    · rw [List.getElem?_set_ne z] at h; exact ⟨w, h⟩
  refine ⟨fun b x h => ?_, by rw [List.length_set]; exact S.len, fun j w k g => ?_, fun j w k g => ?_, fun j l w z b k1 k2 g1 g2 q1 q2 => ?_, by rw [List.length_set]; exact S.klen, fun q hq => ?_, fun b x h n => ?_, S.gle, S.gfr⟩
  · rw [upd_ne (fun z => by rw [z, e2] at h; cases h)]
    exact S.le b x h
  · have z : i ≠ j := fun z => by rw [← z, hk] at k; cases k
    rw [List.getElem?_set_ne z] at g
    exact S.shr j w k g
  · by_cases z : i = j
    · subst z
      rw [List.getElem?_set_self hi] at g
      cases g
      exact ⟨ad, o', hs, e2, upd_same, ho, e5⟩
    · rw [List.getElem?_set_ne z] at g
      obtain ⟨b, ob', q1, q2, q3, q4, q5⟩ := S.own j w k g
      refine ⟨b, ob', q1, q2, ?_, q4, q5⟩
      rw [upd_ne]
      · exact q3
      · rintro rfl
        exact z (S.sep i j t w _ hk k hg g hs q1)
  · obtain ⟨w', g1⟩ := gs j w g1
    obtain ⟨z', g2⟩ := gs l z g2
    exact S.sep j l w' z' b k1 k2 g1 g2 q1 q2
  · obtain ⟨q1, ⟨w, q2⟩, q3⟩ := S.pin q hq
    refine ⟨q1, ?_, q3⟩
    by_cases z : i = q.1
    · exact ⟨u, by rw [← z, List.getElem?_set_self hi]⟩
    · exact ⟨w, by rw [List.getElem?_set_ne z]; exact q2⟩
  · rw [upd_ne]
    · exact S.frm b x h n
    · rintro rfl
      rcases e5 with e5 | e5
      · rw [h] at e5; cases e5
      · exact n e5
theorem tyL {G H : Hp} {a : Addr} {o : HO} {t : T} (h : Ho K G o t) (e : H a = some o) (k : isL t = true) : tyV K "list" (.ref a) H := by
  cases t with
  | lst ts => obtain ⟨vs, rfl, _⟩ := h; exact .inl ⟨rfl, vs, .inl (.inl e)⟩
  | _ => cases k
theorem tyD {G H : Hp} {a : Addr} {o : HO} {t : T} (h : Ho K G o t) (e : H a = some o) (k : isDc t = true) : tyV K "dict" (.ref a) H := by
  cases t with
  | dct ks ts =>
    rcases h with ⟨kvs, rfl, _⟩ | ⟨kvs, rfl, _⟩
    · exact .inr (.inr (.inl ⟨rfl, .inl ⟨kvs, e⟩⟩))
    · exact .inr (.inr (.inl ⟨rfl, .inr ⟨kvs, e⟩⟩))
  | _ => cases k
theorem mut_of (i : Nat) {r : V → List V → Hp → VK → Prop} {g : T → List T → Option (T × T)} {kd : T → Bool} (hg : MutT K r g) (hT : ∀ (G H : Hp) (a : Addr) (o : HO) (t : T), Ho K G o t → H a = some o → kd t = true → tyV K T' (.ref a) H)
    (hk : κ[i]? = some true) : ∀ σ H Q, cE K false [] (M ++ [i]) κ (eMut i kd g g1) σ H Q → tBM K T' r (tVar i) (cA K [] M κ g1) σ H Q := fun σ H Q ⟨N, G, γ, r, γ', S, ef, q⟩ => by
  unfold eMut at ef
  split at ef
  case h_2 => cases ef
  rename_i t0 h0
  split at ef
  case isFalse => cases ef
  rename_i hkd
  obtain ⟨⟨t1, γ1⟩, e1, ef⟩ := Option.bind_eq_some_iff.mp ef
  dsimp only at ef
  split at ef
  case h_2 => cases ef
  rename_i t2 h2
  obtain ⟨⟨res, t3⟩, e3, ef⟩ := Option.map_eq_some_iff.mp ef
  cases ef
  obtain ⟨a, o, s1, s2, s3, s4, s5⟩ := S.own i t0 hk h0
  refine ⟨_, s1, hT G H a o t0 s4 s3 hkd, N, G, γ, t1, γ1, S, e1, fun vs G1 H1 z1 S1 k1 r1 => ?_⟩
  obtain ⟨a', o', w1, w2, w3, w4, w5⟩ := S1.own i t2 hk h2
  rw [s1] at w1
  cases w1
  refine hg N G1 κ σ H1 γ1 t1 vs a o' t2 _ _ S1 r1.reps w3 w4 e3 Q fun v o2 ho hr => ?_
  refine q v G1 _ z1 (S1.changed hk h2 s1 ho) (fun j hj => ?_) (.old hr)
  rw [List.mem_append, not_or] at hj
  rw [List.getElem?_set_ne (fun z => hj.2 (by simp [z]))]
  exact k1 j hj.1
theorem sx_mut (i : Nat) {r : V → List V → Hp → VK → Prop} {g : T → List T → Option (T × T)} {kd : T → Bool} (pa : PlainAttrs T') (slot : Slot T' name id) (hty : typeOf (.builtin id) = pure (.type "method_descriptor")) (hm : MtR X id r) (hg : MutT X.K r g)
    (hT : ∀ (G H : Hp) (a : Addr) (o : HO) (t : T), Ho X.K G o t → H a = some o → kd t = true → tyV X.K T' (.ref a) H) (ha : SA X (e :: es) [] M κ g1) (hk : κ[i]? = some true := by rfl)
    (hN : X.N[i]? = some x := by rfl) (hv : Vis X.env.scope x := by first | exact Or.inl rfl | exact Or.inr (Or.inl rfl) | exact Or.inr (Or.inr rfl))
    (hd : (x == ("__debug__" : Str)) = false := by decide) (hcd : (x == ("__classdict__" : Str)) = false := by decide)
    (hbase : attributeBase (.Name x p) name X.env (eval (.Name x p) X.env) = eval (.Name x p) X.env := by rfl)
    (hfew : ((backTo cpos (starEach (e :: es) X.env)).all (fun x => !x.1) && (backToKw cpos (keywordEach [] X.env)).all (fun x => x.1.isSome)
      && decide ((e :: es).length + ([] : List Keyword).length + (if ([] : List Keyword).isEmpty then 0 else 1) < 30)) = true := by rfl)
    (hline : (apos.endLine == cpos.line) = true := by rfl) (hs : starEach (e :: es) X.env = (false, eval e X.env) :: starEach es X.env := by rfl) (hplain : (backTo cpos (starEach es X.env)).any (·.1) = false := by rfl) :
    SX X (.Call (.Attribute (.Name x p) name apos) (e :: es) [] cpos) false [] (M ++ [i]) κ (eMut i kd g g1) :=
  PE.weak (pe_bm pa slot hty hm (pe_var hN hv hd hcd) ha hbase hfew hline hs hplain) (mut_of i hg hT hk)
theorem sx_mut0 (i : Nat) {r : V → List V → Hp → VK → Prop} {g : T → List T → Option (T × T)} {kd : T → Bool} (pa : PlainAttrs T') (slot : Slot T' name id) (hty : typeOf (.builtin id) = pure (.type "method_descriptor")) (hm : MtR X id r) (hg : MutT X.K r g)
    (hT : ∀ (G H : Hp) (a : Addr) (o : HO) (t : T), Ho X.K G o t → H a = some o → kd t = true → tyV X.K T' (.ref a) H) (hk : κ[i]? = some true := by rfl)
    (hN : X.N[i]? = some x := by rfl) (hv : Vis X.env.scope x := by first | exact Or.inl rfl | exact Or.inr (Or.inl rfl) | exact Or.inr (Or.inr rfl))
    (hd : (x == ("__debug__" : Str)) = false := by decide) (hcd : (x == ("__classdict__" : Str)) = false := by decide)
    (hbase : attributeBase (.Name x p) name X.env (eval (.Name x p) X.env) = eval (.Name x p) X.env := by rfl) (hline : (apos.endLine == cpos.line) = true := by rfl) :
    SX X (.Call (.Attribute (.Name x p) name apos) [] [] cpos) false [] ([] ++ [i]) κ (eMut i kd g aNil) :=
  PE.weak (pe_bm0 pa slot hty hm (pe_var hN hv hd hcd) hbase hline) fun σ H Q h => by
  have h2 := mut_of i hg hT hk σ H Q h
  obtain ⟨v, h3, h4, N, G, γ, r, γ', S, e, q⟩ := h2
  cases e
  exact ⟨v, h3, h4, q [] G H (Same.refl _) S (.refl _ _) .nil⟩
/-! the methods -/
def gApp : T → List T → Option (T × T)
  | .lst ts, [u] => if ts.length < sizeLine then some (.non, .lst (ts ++ [u])) else none
  | _, _ => none
theorem mu_app : MutT K rAppend gApp := by
  intro N G κ σ H γ ts xs a o t res t' S r ha ho e Q q
  unfold gApp at e
  split at e
  · split at e <;> cases e
    rename_i ts u hz
    obtain ⟨vs, rfl, r1⟩ := ho
    unfold Reps at r
    obtain ⟨v, w, rfl, r2, r3⟩ := r
    unfold Reps at r3
    subst r3
    exact ⟨a, vs, v, rfl, rfl, ha, by rw [r1.length]; exact hz, q _ _ ⟨_, rfl, r1.append (.cons r2 .nil)⟩ .non⟩
  · cases e
def gPop : T → List T → Option (T × T)
  | .lst ts, [] => (ts[ts.length - 1]?).map fun u => (u, .lst ts.dropLast)
  | _, _ => none
theorem mu_pop : MutT K rPop gPop := by
  intro N G κ σ H γ ts xs a o t res t' S r ha ho e Q q
  unfold gPop at e
  split at e
  · rename_i ts
    obtain ⟨u, h1, h2⟩ := Option.map_eq_some_iff.mp e
    cases h2
    obtain ⟨vs, rfl, r1⟩ := ho
    unfold Reps at r
    subst r
    obtain ⟨v, h3, h4⟩ := r1.get h1
    exact ⟨a, vs, v, rfl, rfl, ha, by rw [r1.length]; exact h3, q _ _ ⟨_, rfl, r1.dropLast⟩ h4⟩
  · cases e
def gPopAt : T → List T → Option (T × T)
  | .lst ts, [.int i] => if -(2 ^ 63) ≤ i ∧ i < 2 ^ 63 then (ixN ts.length i).bind fun k => (ts[k]?).map fun u => (u, .lst (ts.eraseIdx k)) else none
  | _, _ => none
theorem mu_popAt : MutT K rPopAt gPopAt := by
  intro N G κ σ H γ ts xs a o t res t' S r ha ho e Q q
  unfold gPopAt at e
  split at e
  · split at e
    · rename_i ts i hz
      obtain ⟨k, h0, e⟩ := Option.bind_eq_some_iff.mp e
      obtain ⟨u, h1, h2⟩ := Option.map_eq_some_iff.mp e
      cases h2
      obtain ⟨vs, rfl, r1⟩ := ho
      unfold Reps at r
      obtain ⟨v, w, rfl, r2, r3⟩ := r
      unfold Reps at r3
      subst r3
      unfold Rep at r2
      subst r2
      obtain ⟨v, h3, h4⟩ := r1.get h1
      exact ⟨a, vs, i, k, v, rfl, rfl, ha, hz.1, hz.2, by rw [r1.length]; exact (ixN_seq h0).1, h3, q _ _ ⟨_, rfl, r1.erase k⟩ h4⟩
    · cases e
  · cases e
def gExt : T → List T → Option (T × T)
  | .lst ts, [.lst us] => if ts.length + us.length ≤ sizeLine then some (.non, .lst (ts ++ us)) else none
  | _, _ => none
theorem mu_ext : MutT K rExtend gExt := by
  intro N G κ σ H γ ts xs a o t res t' S r ha ho e Q q
  unfold gExt at e
  split at e
  · split at e <;> cases e
    rename_i ts us hz
    obtain ⟨vs, rfl, r1⟩ := ho
    unfold Reps at r
    obtain ⟨v, w, rfl, r2, r3⟩ := r
    unfold Reps at r3
    subst r3
    unfold Rep at r2
    obtain ⟨b, ws, rfl, h1, r4⟩ := r2
    exact ⟨a, b, vs, ws, rfl, rfl, ha, S.le _ _ h1, by rw [r1.length, r4.length]; exact hz, q _ _ ⟨_, rfl, r1.append r4⟩ .non⟩
  · cases e

/-! ### stores at an index -/
def sSetI (i : Nat) (fv fi : Ex) : Fs := fun γ => (fv γ).bind fun p => match p.2[i]? with
  | some (some _) => (fi p.2).bind fun q => match q.2[i]?, q.1 with
    | some (some (.lst ts)), .int k => (ixN ts.length k).map fun j => .nx (q.2.set i (some (.lst (ts.set j p.1))))
    | _, _ => none
  | _ => none
theorem ss_setI (i : Nat) {tpos : Pos} (hv : SX X e false [] M1 κ f1) (hi : SX X b false [] M2 κ f2) (hk : κ[i]? = some true := by rfl)
    (hN : X.N[i]? = some x := by rfl) (hvis : Vis X.env.scope x := by first | exact Or.inl rfl | exact Or.inr (Or.inl rfl) | exact Or.inr (Or.inr rfl))
    (hd : (x == ("__debug__" : Str)) = false := by decide) (hcd : (x == ("__classdict__" : Str)) = false := by decide)
    (hs : swapsWithSole [.Subscript (.Name x p) b tpos] e pos.line X.env = pure false := by rfl) (hw : swappedStores [.Subscript (.Name x p) b tpos] e X.env = pure none := by rfl)
    (h1 : (assignEach [.Subscript (.Name x p) b tpos] X.env).map (·.2) = [assign (.Subscript (.Name x p) b tpos) X.env] := by rfl)
    (ha : ∀ v, assign (.Subscript (.Name x p) b tpos) X.env v = (do
      let ov ← holding [v] (eval (.Name x p) X.env)
      let iv ← holding [v, ov] (eval b X.env)
      standAt tpos
      holding [v, ov, iv] (setItem ov iv v)
      release [v, ov, iv] []) := by intro _; rfl) :
    SS X (.Assign [.Subscript (.Name x p) b tpos] e pos) κ κ κb rk pl (sSetI i f1 f2) :=
  PS.weak (ps_asg hv (pg_sub (pe_var hN hvis hd hcd) hi set_list ha) hs hw h1) fun D σ H ⟨N, G, γ, o, hp', S, ef, q⟩ => by
  unfold sSetI at ef
  obtain ⟨⟨t1, γ1⟩, e1, ef⟩ := Option.bind_eq_some_iff.mp ef
  dsimp only at ef
  split at ef
  case h_2 => cases ef
  rename_i t0 h0
  obtain ⟨⟨t2, γ2⟩, e2, ef⟩ := Option.bind_eq_some_iff.mp ef
  dsimp only at ef
  split at ef
  case h_2 => cases ef
  rename_i ts k h2
  obtain ⟨j, e3, ef⟩ := Option.map_eq_some_iff.mp ef
  cases ef
  refine ⟨N, G, γ, t1, γ1, S, e1, fun v1 G1 H1 s1 S1 k1 r1 => ?_⟩
  obtain ⟨a, ob, w1, w2, w3, w4, w5⟩ := S1.own i t0 hk h0
  refine ⟨_, w1, N, G1, γ1, _, γ2, S1, e2, fun v2 G2 H2 s2 S2 k2 r2 => ?_⟩
  obtain ⟨a', ob', z1, z2, z3, ⟨vs, rfl, z4⟩, z5⟩ := S2.own i _ hk h2
  rw [w1] at z1
  cases z1
  exact ⟨a, vs, k, j, rfl, r2.rdy.int S2, z3, by rw [z4.length]; exact e3, q _ _ G2 (s1.trans s2) (S2.changed hk h2 w1 ⟨_, rfl, z4.set j (r1.rdy.rep.mono s2)⟩)⟩

/-! ### targets of several names -/
abbrev TgT := List T → En → Option En
def tgNil : TgT := fun ts γ => match ts with
  | [] => some γ
  | _ => none
def tgCons (g : T → En → Option En) (h : TgT) : TgT := fun ts γ => match ts with
  | t :: r => (g t γ).bind fun γ1 => h r γ1
  | _ => none
/-- a tuple or a list -/
def tgSeq (n : Nat) (h : TgT) : T → En → Option En := fun t γ => match t with
  | .tup ts => if ts.length = n then h ts γ else none
  | .lst ts => if ts.length = n then h ts γ else none
  | _ => none
def cGs (K : PySem.W.Frag) (L : List Nat) (κ κ' : List Bool) (tg : TgT) : TGs := fun vs σ H Q => ∃ N G γ ts γ', (∀ j : Nat, j ∈ L → j ∉ N.pins.map (·.1)) ∧ Sta K N G κ σ H γ ∧ Reps K G ts vs ∧ tg ts γ = some γ' ∧
  ∀ σ', Sta K N G κ' σ' H γ' → (∀ j : Nat, j ∉ L → σ'[j]? = σ[j]? ∧ γ'[j]? = γ[j]?) → Q σ' H
abbrev SGs (X : Cx) (es : List Expr) (L : List Nat) (κ κ' : List Bool) (tg : TgT) : Prop := PGs X es (cGs X.K L κ κ' tg)
theorem PGs.weak {X : Cx} {e : List Expr} {t t' : TGs} (h : PGs X e t) (w : ∀ v σ H Q, t' v σ H Q → t v σ H Q) : PGs X e t' := ⟨fun pins s σ H v u Q I r q => h.run pins s σ H v u Q I r (w v σ H Q q)⟩
theorem PG.or {X : Cx} {e : Expr} {t t' : TG} (h : PG X e t) (h' : PG X e t') : PG X e (fun v σ H Q => t v σ H Q ∨ t' v σ H Q) := ⟨fun pins s σ H v u Q I r q => q.elim (h.run pins s σ H v u Q I r) (h'.run pins s σ H v u Q I r)⟩
theorem sgs_nil : SGs X [] [] κ κ tgNil := PGs.weak pgs_nil fun vs σ H Q ⟨N, G, γ, ts, γ', hp, S, r, e, q⟩ => by
  unfold tgNil at e
  split at e <;> cases e
  unfold Reps at r
  exact ⟨r, q σ S fun _ _ => ⟨rfl, rfl⟩⟩
theorem sgs_cons {tg : T → En → Option En} {tgs : TgT} {L1 L2 : List Nat} (h1 : SG X e L1 κ κ1 tg) (h2 : SGs X es L2 κ1 κ2 tgs) (hs : (assignEach (e :: es) X.env).map (·.2) = assign e X.env :: (assignEach es X.env).map (·.2) := by rfl) : SGs X (e :: es) (L1 ++ L2) κ κ2 (tgCons tg tgs) :=
  PGs.weak (pgs_cons h1 h2 hs) fun vs σ H Q ⟨N, G, γ, ts, γ', hp, S, r, e, q⟩ => by
  unfold tgCons at e
  split at e
  case h_2 => cases e
  rename_i t rest
  obtain ⟨γ1, e1, e⟩ := Option.bind_eq_some_iff.mp e
  unfold Reps at r
  obtain ⟨v, w, rfl, r1, r2⟩ := r
  refine ⟨v, w, rfl, N, G, γ, t, γ1, fun j hj => hp j (List.mem_append_left _ hj), S, r1, e1, fun σ1 S1 k1 => ?_⟩
  refine ⟨N, G, γ1, rest, γ', fun j hj => hp j (List.mem_append_right _ hj), S1, r2, e, fun σ2 S2 k2 => q σ2 S2 fun j hj => ?_⟩
  rw [List.mem_append, not_or] at hj
  exact ⟨((k2 j hj.2).1).trans (k1 j hj.1).1, ((k2 j hj.2).2).trans (k1 j hj.1).2⟩
theorem sg_seq {tgs : TgT} {k n : Nat} (hc : X.calm = true) (h : SGs X es L κ κ1 tgs) (hn : (assignEach es X.env).length = n := by rfl) (hst : (assignEach es X.env).findIdx? (·.1) = none := by rfl) : SG X (.Tuple es k pos) L κ κ1 (tgSeq n tgs) :=
  PG.weak (PG.or (pg_tup hc h hn hst) (pg_unl hc h hn hst)) fun v σ H Q ⟨N, G, γ, t, γ', hp, S, r, e, q⟩ => by
  unfold tgSeq at e
  split at e
  · split at e
    · rename_i ts hl
      unfold Rep at r
      obtain ⟨a, vs, rfl, h1, h2⟩ := r
      exact .inl ⟨a, vs, rfl, Same.tup S.le h1, by rw [h2.length]; exact hl, N, G, γ, ts, γ', hp, S, h2, e, q⟩
    · cases e
  · split at e
    · rename_i ts hl
      unfold Rep at r
      obtain ⟨a, vs, rfl, h1, h2⟩ := r
      exact .inr ⟨a, vs, rfl, .inl (.inl (S.le _ _ h1)), by rw [h2.length]; exact hl, N, G, γ, ts, γ', hp, S, h2, e, q⟩
    · cases e
  · cases e
def sAsgT (tg : T → En → Option En) (f : Ex) : Fs := fun γ => (f γ).bind fun p => (tg p.1 p.2).map .nx
theorem ss_asgT {tge : Expr} {tg : T → En → Option En} (he : SX X e false [] M κ f) (hg : SG X tge L κ κ1 tg) (hL : ∀ j, j ∈ L → j ∉ pl := by decide) (hs : swapsWithSole [tge] e pos.line X.env = pure false := by rfl) (hw : swappedStores [tge] e X.env = pure none := by rfl)
    (h1 : (assignEach [tge] X.env).map (·.2) = [assign tge X.env] := by rfl) : SS X (.Assign [tge] e pos) κ κ1 κb rk pl (sAsgT tg f) := PS.weak (ps_asg he hg hs hw h1) fun D σ H ⟨N, G, γ, o, hp', S, ef, q⟩ => by
  unfold sAsgT at ef
  obtain ⟨⟨t1, γ1⟩, e1, ef⟩ := Option.bind_eq_some_iff.mp ef
  obtain ⟨γ2, e2, ef⟩ := Option.map_eq_some_iff.mp ef
  cases ef
  refine ⟨N, G, γ, t1, γ1, S, e1, fun v G1 H1 s1 S1 k1 r1 => ?_⟩
  exact ⟨N, G1, γ1, t1, _, fun j hj => hp' ▸ hL j hj, S1, r1.rdy.rep, e2, fun σ' S' _ => q σ' H1 G1 s1 S'⟩
/-- a, b = x, y -/
def sPar (i j : Nat) (a : Ax) : Fs := fun γ => match a γ with
  | some ([t, u], γ') => some (.nx ((γ'.set i (some t)).set j (some u)))
  | _ => none
theorem ss_par (i j : Nat) {y : Str} {px py pt : Pos} {kt k2 pt2} (ha : SA X [a, b] [] M κ g1) (hc : X.calm = true) (hN : X.N.Nodup) (hi : X.N[i]? = some x := by rfl) (hj : X.N[j]? = some y := by rfl) (hij : i ≠ j := by decide) (hx : X.env.scope.names.lookup x = some .local := by rfl) (hy : X.env.scope.names.lookup y = some .local := by rfl)
    (hw : swappedStores [.Tuple [.Name x px, .Name y py] kt pt] (.Tuple [a, b] k2 pt2) X.env = pure (some [x, y]) := by rfl) (hs : swapsWithSole [.Tuple [.Name x px, .Name y py] kt pt] (.Tuple [a, b] k2 pt2) pos.line X.env = pure false := by rfl)
    (hk1 : i < κ.length := by decide) (hk2 : j < κ.length := by decide) (hp1 : i ∉ pl := by decide) (hp2 : j ∉ pl := by decide) :
    SS X (.Assign [.Tuple [.Name x px, .Name y py] kt pt] (.Tuple [a, b] k2 pt2) pos) κ ((κ.set i false).set j false) κb rk pl (sPar i j g1) := PS.weak (ps_par hc hN hi hj hij hx hy ha hw hs) fun D σ H ⟨N, G, γ, o, hp', S, ef, q⟩ => by
  unfold sPar at ef
  split at ef
  case h_2 => cases ef
  rename_i t u γ1 e1
  cases ef
  refine ⟨N, G, γ, _, γ1, S, e1, fun vs G1 H1 s1 S1 k1 r1 => ?_⟩
  obtain ⟨v, w, rfl, r2, r3⟩ := r1.two
  refine ⟨v, w, rfl, q _ H1 G1 s1 ?_⟩
  have S2 := S1.store (i := i) (len_of S1 hk1) (hp' ▸ hp1) r2.rep
  exact S2.store (i := j) (by rw [List.length_set]; exact len_of S1 hk2) (hp' ▸ hp2) r3.rep
def sPar3 (i j l : Nat) (a : Ax) : Fs := fun γ => match a γ with
  | some ([t, u, w], γ') => some (.nx (((γ'.set i (some t)).set j (some u)).set l (some w)))
  | _ => none
theorem ss_par3 (i j l : Nat) {y z : Str} {px py pz pt : Pos} {kt k2 pt2} (ha : SA X [a, b, c] [] M κ g1) (hc : X.calm = true) (hN : X.N.Nodup) (hi : X.N[i]? = some x := by rfl) (hj : X.N[j]? = some y := by rfl) (hl : X.N[l]? = some z := by rfl) (hij : i ≠ j := by decide) (hil : i ≠ l := by decide) (hjl : j ≠ l := by decide)
    (hx : X.env.scope.names.lookup x = some .local := by rfl) (hy : X.env.scope.names.lookup y = some .local := by rfl) (hz : X.env.scope.names.lookup z = some .local := by rfl)
    (hw : swappedStores [.Tuple [.Name x px, .Name y py, .Name z pz] kt pt] (.Tuple [a, b, c] k2 pt2) X.env = pure (some [x, y, z]) := by rfl) (hs : swapsWithSole [.Tuple [.Name x px, .Name y py, .Name z pz] kt pt] (.Tuple [a, b, c] k2 pt2) pos.line X.env = pure false := by rfl)
    (hk1 : i < κ.length := by decide) (hk2 : j < κ.length := by decide) (hk3 : l < κ.length := by decide) (hp1 : i ∉ pl := by decide) (hp2 : j ∉ pl := by decide) (hp3 : l ∉ pl := by decide) :
    SS X (.Assign [.Tuple [.Name x px, .Name y py, .Name z pz] kt pt] (.Tuple [a, b, c] k2 pt2) pos) κ (((κ.set i false).set j false).set l false) κb rk pl (sPar3 i j l g1) := PS.weak (ps_par3 hc hN hi hj hl hij hil hjl hx hy hz ha hw hs) fun D σ H ⟨N, G, γ, o, hp', S, ef, q⟩ => by
  unfold sPar3 at ef
  split at ef
  case h_2 => cases ef
  rename_i t u w' γ1 e1
  cases ef
  refine ⟨N, G, γ, _, γ1, S, e1, fun vs G1 H1 s1 S1 k1 r1 => ?_⟩
  cases r1 with
  | cons q1 r1 =>
    obtain ⟨v2, v3, rfl, r2, r3⟩ := r1.two
    refine ⟨_, v2, v3, rfl, q _ H1 G1 s1 ?_⟩
    have S2 := S1.store (i := i) (len_of S1 hk1) (hp' ▸ hp1) q1.rep
    have S3 := S2.store (i := j) (by rw [List.length_set]; exact len_of S1 hk2) (hp' ▸ hp2) r2.rep
    exact S3.store (i := l) (by rw [List.length_set, List.length_set]; exact len_of S1 hk3) (hp' ▸ hp3) r3.rep
end
end Tw

namespace Tw
open PySem PySem.Spec PyProof.Rows L2

/-! ### built-ins -/
def intsOf : List T → Option (List Int)
  | [] => some []
  | .int i :: ts => (intsOf ts).map fun r => i :: r
  | _ => none
def blsOf : List T → Option (List Bool)
  | [] => some []
  | .bl i :: ts => (blsOf ts).map fun r => i :: r
  | _ => none
theorem intsOf_some : ∀ {ts : List T} {ns : List Int}, intsOf ts = some ns → ts = ns.map T.int
  | [], ns, h => by cases h; rfl
  | t :: ts, ns, h => by
    unfold intsOf at h
    split at h
    · rename_i q; cases q
    · rename_i e
      cases e
      obtain ⟨r, h1, h2⟩ := Option.map_eq_some_iff.mp h
      cases h2
      rw [intsOf_some h1]
      rfl
    · cases h
theorem intsOf_map : ∀ ns : List Int, intsOf (ns.map T.int) = some ns
  | [] => rfl
  | n :: ns => by
    show (intsOf (ns.map T.int)).map _ = _
    rw [intsOf_map ns]
    rfl
theorem blsOf_some : ∀ {ts : List T} {ns : List Bool}, blsOf ts = some ns → ts = ns.map T.bl
  | [], ns, h => by cases h; rfl
  | t :: ts, ns, h => by
    unfold blsOf at h
    split at h
    · rename_i q; cases q
    · rename_i e
      cases e
      obtain ⟨r, h1, h2⟩ := Option.map_eq_some_iff.mp h
      cases h2
      rw [blsOf_some h1]
      rfl
    · cases h
theorem blsOf_map : ∀ ns : List Bool, blsOf (ns.map T.bl) = some ns
  | [] => rfl
  | n :: ns => by
    show (blsOf (ns.map T.bl)).map _ = _
    rw [blsOf_map ns]
    rfl
def gLen : List T → Option T
  | [.lst ts] => some (.int (ts.length : Nat))
  | [.old ts] => some (.int (ts.length : Nat))
  | [.tup ts] => some (.int (ts.length : Nat))
  | [.str z] => if z.length ≤ sizeLine then some (.int (z.length : Nat)) else none
  | _ => none
def gInt : List T → Option T
  | [.int i] => some (.int i)
  | [.bl k] => some (.int (if k then 1 else 0))
  | _ => none
def gAbs : List T → Option T
  | [.int i] => some (.int (if i < 0 then -i else i))
  | _ => none
def gMax2 : List T → Option T
  | [.int i, .int j] => some (.int (if j > i then j else i))
  | _ => none
def gMin2 : List T → Option T
  | [.int i, .int j] => some (.int (if j < i then j else i))
  | _ => none
def gDivmod : List T → Option T
  | [.int i, .int j] => if 0 < j ∧ j < 1073741824 then some (.tup [.int (i / j), .int (i % j)]) else none
  | _ => none
def gListOf : List T → Option T
  | [.lst ts] => some (.lst ts)
  | [.old ts] => some (.lst ts)
  | [.tup ts] => some (.lst ts)
  | _ => none
def gTupOf : List T → Option T
  | [.lst ts] => some (.tup ts)
  | [.tup ts] => some (.tup ts)
  | _ => none
def gSum : List T → Option T
  | [.lst ts] => (intsOf ts).map fun ns => .int ns.sum
  | _ => none
/-- the least, the greatest of a list with one at least -/
def minI : List Int → Int
  | [] => 0
  | [x] => x
  | x :: y :: r => min x (minI (y :: r))
def maxI : List Int → Int
  | [] => 0
  | [x] => x
  | x :: y :: r => max x (maxI (y :: r))
def gMinL : List T → Option T
  | [.lst ts] => (intsOf ts).bind fun ns => if ns = [] then none else some (.int (minI ns))
  | _ => none
def gMaxL : List T → Option T
  | [.lst ts] => (intsOf ts).bind fun ns => if ns = [] then none else some (.int (maxI ns))
  | _ => none
def gSortI : List T → Option T
  | [.lst ts] => (intsOf ts).map fun ns => .lst ((ns.mergeSort (fun a b => decide (a ≤ b))).map T.int)
  | _ => none
def gAll : List T → Option T
  | [.lst ts] => (blsOf ts).map fun bs => .bl (bs.all id)
  | _ => none
def gAny : List T → Option T
  | [.lst ts] => (blsOf ts).map fun bs => .bl (bs.any id)
  | _ => none
def gGcd : List T → Option T
  | [.int i, .int j] => some (.int ((Nat.gcd i.natAbs j.natAbs : Nat) : Int))
  | _ => none
def gStr : List T → Option T
  | [.int i] => if i.natAbs.log2 < 1920 then some (.str (toString i)) else none
  | _ => none
/-- isinstance with a built-in class -/
def tagT : T → String
  | .non => "NoneType"
  | .bl _ => "bool"
  | .int _ => "int"
  | .str _ => "str"
  | .tup _ => "tuple"
  | .lst _ => "list"
  | .dct _ _ => "dict"
  | .old _ => ""
def isiB (n : String) (t : T) : Option Bool := match t with
  | .old _ => none
  | t => kitB (tagT t) n

theorem minI_spec : ∀ {ns : List Int}, ns ≠ [] → minI ns ∈ ns ∧ ∀ y ∈ ns, minI ns ≤ y
  | [x], _ => ⟨by simp [minI], by simp [minI]⟩
  | x :: y :: r, _ => by
    obtain ⟨h1, h2⟩ := minI_spec (ns := y :: r) (by simp)
    unfold minI
    refine ⟨?_, fun z hz => ?_⟩
    · rcases Int.le_total x (minI (y :: r)) with h | h
      · rw [Int.min_eq_left h]; exact List.mem_cons_self
      · rw [Int.min_eq_right h]; exact List.mem_cons_of_mem _ h1
    · rcases List.mem_cons.mp hz with rfl | hz
      · omega
      · have := h2 z hz; omega
theorem maxI_spec : ∀ {ns : List Int}, ns ≠ [] → maxI ns ∈ ns ∧ ∀ y ∈ ns, y ≤ maxI ns
  | [x], _ => ⟨by simp [maxI], by simp [maxI]⟩
  | x :: y :: r, _ => by
    obtain ⟨h1, h2⟩ := maxI_spec (ns := y :: r) (by simp)
    unfold maxI
    refine ⟨?_, fun z hz => ?_⟩
    · rcases Int.le_total x (maxI (y :: r)) with h | h
      · rw [Int.max_eq_right h]; exact List.mem_cons_of_mem _ h1
      · rw [Int.max_eq_left h]; exact List.mem_cons_self
    · rcases List.mem_cons.mp hz with rfl | hz
      · omega
      · have := h2 z hz; omega
theorem sorted_one {ns ns' : List Int} (h1 : ns'.Perm ns) (h2 : ns'.Pairwise (· ≤ ·)) : ns' = ns.mergeSort (fun a b => decide (a ≤ b)) := by
  refine List.Perm.eq_of_pairwise (le := fun a b => a ≤ b) (fun a b _ _ x y => Int.le_antisymm x y) h2 ?_ (h1.trans (List.mergeSort_perm ns _).symm)
  have := List.pairwise_mergeSort (le := fun a b => decide (a ≤ b)) (fun a b c => by simp; omega) (fun a b => by simp; omega) ns
  exact this.imp fun h => by simpa using h

section
variable {X : Cx} {K : PySem.W.Frag} {N N' : Nt} {G G' H H' : Hp} {σ σ' : L2.St} {γ γ' : En} {ts us : List T} {vs : List V} {t u : T} {v : V}
variable {κ κ1 κ2 κb : List Bool} {rk : Bool} {pl io own L : List Nat} {pk : List Bool} {F F1 F2 : Fs} {st : Stmt} {rest body : List Stmt} {D D' : Ends} {o : Out}
variable {e a b c : Expr} {es : List Expr} {pos p q apos cpos pos' tpos : Pos} {m : Bool} {B B1 B2 M M1 M2 M3 : List Nat} {f f1 f2 f3 : Ex} {g1 g2 : Ax} {c1 c2 : Tx} {x name : Str} {id T' : String}
theorem Rdy.len (r : Rdy K κ G σ γ B t v) (S : Sta K N G κ σ H γ) (e : gLen [t] = some u) : ∃ n : Nat, u = .int n ∧ LenV K v H n := by
  cases t with
  | lst ts => obtain ⟨a, vs, rfl, h1, r1⟩ := r.list S; cases e; exact ⟨_, rfl, .inl ⟨vs, .inl (.inl h1), r1.length.symm⟩⟩
  | old ts => obtain ⟨a, vs, rfl, h1, r1⟩ := r.older S; cases e; exact ⟨_, rfl, .inl ⟨vs, h1, r1.length.symm⟩⟩
  | tup ts => obtain ⟨a, vs, rfl, h1, r1⟩ := r.tuple S; cases e; exact ⟨_, rfl, .inr ⟨vs, h1, r1.length.symm⟩⟩
  | str z =>
    have := r.str S
    subst this
    have e2 : (if z.length ≤ sizeLine then some (T.int (z.length : Nat)) else none) = some u := e
    split at e2 <;> cases e2
    exact ⟨_, rfl, by assumption, rfl⟩
  | non => cases e
  | bl _ => cases e
  | int _ => cases e
  | dct _ _ => cases e
theorem fn_len : FnT K (fun xs H Q => ∃ x n, xs = [x] ∧ LenV K x H n ∧ Q (.int n) H) false gLen := by
  intro N G κ σ H γ B ts tz xs S r e Q q
  have : ∃ t, ts = [t] := by
    unfold gLen at e
    split at e <;> first | exact ⟨_, rfl⟩ | cases e
  obtain ⟨t, rfl⟩ := this
  obtain ⟨v, rfl, r1⟩ := r.one
  obtain ⟨n, rfl, h⟩ := r1.len S e
  exact ⟨v, n, rfl, h, q _ G H (Same.refl _) S (.old .int)⟩
theorem fn_int : FnT K (fun xs H Q => (∃ i, xs = [.int i] ∧ Q (.int i) H) ∨ ∃ k, xs = [.bl k] ∧ Q (.int (if k then 1 else 0)) H) false gInt := by
  intro N G κ σ H γ B ts tz xs S r e Q q
  unfold gInt at e
  split at e
  · cases e
    obtain ⟨v, rfl, r1⟩ := r.one
    exact .inl ⟨_, by rw [r1.int S], q _ G H (Same.refl _) S (.old .int)⟩
  · cases e
    obtain ⟨v, rfl, r1⟩ := r.one
    exact .inr ⟨_, by rw [r1.bl S], q _ G H (Same.refl _) S (.old .int)⟩
  · cases e
theorem fn_abs : FnT K (fun xs H Q => ∃ i, xs = [.int i] ∧ Q (.int (if i < 0 then -i else i)) H) false gAbs := by
  intro N G κ σ H γ B ts tz xs S r e Q q
  unfold gAbs at e
  split at e <;> cases e
  obtain ⟨v, rfl, r1⟩ := r.one
  exact ⟨_, by rw [r1.int S], q _ G H (Same.refl _) S (.old .int)⟩
theorem fn_max2 : FnT K (fun xs H Q => ∃ i j, xs = [.int i, .int j] ∧ Q (.int (if j > i then j else i)) H) false gMax2 := by
  intro N G κ σ H γ B ts tz xs S r e Q q
  unfold gMax2 at e
  split at e <;> cases e
  obtain ⟨v, w, rfl, r1, r2⟩ := r.two
  exact ⟨_, _, by rw [r1.int S, r2.int S], q _ G H (Same.refl _) S (.old .int)⟩
theorem fn_min2 : FnT K (fun xs H Q => ∃ i j, xs = [.int i, .int j] ∧ Q (.int (if j < i then j else i)) H) false gMin2 := by
  intro N G κ σ H γ B ts tz xs S r e Q q
  unfold gMin2 at e
  split at e <;> cases e
  obtain ⟨v, w, rfl, r1, r2⟩ := r.two
  exact ⟨_, _, by rw [r1.int S, r2.int S], q _ G H (Same.refl _) S (.old .int)⟩
theorem fn_gcd : FnT K rGcd false gGcd := by
  intro N G κ σ H γ B ts tz xs S r e Q q
  unfold gGcd at e
  split at e <;> cases e
  obtain ⟨v, w, rfl, r1, r2⟩ := r.two
  exact ⟨_, _, by rw [r1.int S, r2.int S], q _ G H (Same.refl _) S (.old .int)⟩
theorem fn_str : FnT K (fun xs H Q => ∃ i, xs = [.int i] ∧ i.natAbs.log2 < 1920 ∧ Q (.str (toString i)) H) false gStr := by
  intro N G κ σ H γ B ts tz xs S r e Q q
  unfold gStr at e
  split at e
  · split at e <;> cases e
    obtain ⟨v, rfl, r1⟩ := r.one
    exact ⟨_, by rw [r1.int S], by assumption, q _ G H (Same.refl _) S (.old .str)⟩
  · cases e
theorem fn_divmod : FnT K (fun xs H Q => ∃ i j, xs = [.int i, .int j] ∧ CDiv i j ∧ ∀ p, H p = none → Q (.ref p) (upd H p (.tup [.int (i / j), .int (i % j)]))) false gDivmod := by
  intro N G κ σ H γ B ts tz xs S r e Q q
  unfold gDivmod at e
  split at e
  · split at e <;> cases e
    obtain ⟨v, w, rfl, r1, r2⟩ := r.two
    refine ⟨_, _, by rw [r1.int S, r2.int S], by assumption, fun p hp => ?_⟩
    obtain ⟨G', s, S', rr⟩ := S.tupled (ts := [.int _, .int _]) hp (.cons .int (.cons .int .nil))
    exact q _ G' _ s S' (.old rr)
  · cases e
theorem fn_listOf : FnT K (fun xs H Q => ∃ p ys, xs = [.ref p] ∧ (SqL K H p ys ∨ SqT K H p ys) ∧ ∀ l, H l = none → Q (.ref l) (upd H l (.lst ys))) true gListOf := by
  intro N G κ σ H γ B ts tz xs S r e Q q
  unfold gListOf at e
  split at e
  · cases e
    obtain ⟨v, rfl, r1⟩ := r.one
    obtain ⟨a, vs, rfl, h1, r2⟩ := r1.list S
    refine ⟨a, vs, rfl, .inl (.inl (.inl h1)), fun l hl => ?_⟩
    obtain ⟨S', f⟩ := S.listed hl r2
    exact q _ G _ (Same.refl _) S' (.new f)
  · cases e
    obtain ⟨v, rfl, r1⟩ := r.one
    obtain ⟨a, vs, rfl, h1, r2⟩ := r1.older S
    refine ⟨a, vs, rfl, .inl h1, fun l hl => ?_⟩
    obtain ⟨S', f⟩ := S.listed hl r2
    exact q _ G _ (Same.refl _) S' (.new f)
  · cases e
    obtain ⟨v, rfl, r1⟩ := r.one
    obtain ⟨a, vs, rfl, h1, r2⟩ := r1.tuple S
    refine ⟨a, vs, rfl, .inr h1, fun l hl => ?_⟩
    obtain ⟨S', f⟩ := S.listed hl r2
    exact q _ G _ (Same.refl _) S' (.new f)
  · cases e
theorem fn_tupOf : FnT K (fun xs H Q => ∃ p ys, xs = [.ref p] ∧ ((SqL K H p ys ∧ ∀ l, H l = none → Q (.ref l) (upd H l (.tup ys))) ∨ (SqT K H p ys ∧ Q (.ref p) H))) false gTupOf := by
  intro N G κ σ H γ B ts tz xs S r e Q q
  unfold gTupOf at e
  split at e
  · cases e
    obtain ⟨v, rfl, r1⟩ := r.one
    obtain ⟨a, vs, rfl, h1, r2⟩ := r1.list S
    refine ⟨a, vs, rfl, .inl ⟨.inl (.inl h1), fun l hl => ?_⟩⟩
    obtain ⟨G', s, S', rr⟩ := S.tupled hl r2
    exact q _ G' _ s S' (.old rr)
  · cases e
    obtain ⟨v, rfl, r1⟩ := r.one
    have k1 := Rdy.tupRep r1 S
    obtain ⟨a, vs, rfl, h1, r2⟩ := r1.tuple S
    exact ⟨a, vs, rfl, .inr ⟨h1, q _ G H (Same.refl _) S (.old k1)⟩⟩
  · cases e
theorem ints_at {xs : List V} (r : Rdys K κ G σ γ B [.lst ts] xs) (S : Sta K N G κ σ H γ) {ns : List Int} (e : intsOf ts = some ns) : ∃ a, xs = [.ref a] ∧ SqL K H a (ns.map V.int) := by
  obtain ⟨v, rfl, r1⟩ := r.one
  obtain ⟨a, vs, rfl, h1, r2⟩ := r1.list S
  rw [intsOf_some e] at r2
  rw [r2.ints] at h1
  exact ⟨a, rfl, .inl (.inl h1)⟩
theorem fn_sum : FnT K (rSum K) false gSum := by
  intro N G κ σ H γ B ts tz xs S r e Q q
  unfold gSum at e
  split at e
  · obtain ⟨ns, h1, h2⟩ := Option.map_eq_some_iff.mp e
    cases h2
    obtain ⟨a, rfl, h3⟩ := ints_at r S h1
    exact ⟨a, ns, rfl, h3, q _ G H (Same.refl _) S (.old .int)⟩
  · cases e
theorem fn_minL : FnT K (rMin K) false gMinL := by
  intro N G κ σ H γ B ts tz xs S r e Q q
  unfold gMinL at e
  split at e
  · obtain ⟨ns, h1, h2⟩ := Option.bind_eq_some_iff.mp e
    split at h2 <;> cases h2
    rename_i hne
    obtain ⟨a, rfl, h3⟩ := ints_at r S h1
    refine ⟨a, ns, rfl, h3, List.length_pos_iff.mpr hne, fun m hm hle => ?_⟩
    obtain ⟨w1, w2⟩ := minI_spec hne
    have : m = minI ns := Int.le_antisymm (hle _ w1) (w2 _ hm)
    rw [this]
    exact q _ G H (Same.refl _) S (.old .int)
  · cases e
theorem fn_maxL : FnT K (rMax K) false gMaxL := by
  intro N G κ σ H γ B ts tz xs S r e Q q
  unfold gMaxL at e
  split at e
  · obtain ⟨ns, h1, h2⟩ := Option.bind_eq_some_iff.mp e
    split at h2 <;> cases h2
    rename_i hne
    obtain ⟨a, rfl, h3⟩ := ints_at r S h1
    refine ⟨a, ns, rfl, h3, List.length_pos_iff.mpr hne, fun m hm hle => ?_⟩
    obtain ⟨w1, w2⟩ := maxI_spec hne
    have : m = maxI ns := Int.le_antisymm (w2 _ hm) (hle _ w1)
    rw [this]
    exact q _ G H (Same.refl _) S (.old .int)
  · cases e
theorem fn_sortI : FnT K (rSortedI K) true gSortI := by
  intro N G κ σ H γ B ts tz xs S r e Q q
  unfold gSortI at e
  split at e
  · obtain ⟨ns, h1, h2⟩ := Option.map_eq_some_iff.mp e
    cases h2
    obtain ⟨a, rfl, h3⟩ := ints_at r S h1
    refine ⟨a, ns, rfl, h3, fun ns' p hp hs hn => ?_⟩
    rw [sorted_one hp hs]
    obtain ⟨S', f⟩ := S.listed hn (Reps.ints_of (K := K) (G := G) (ns.mergeSort _))
    exact q _ G _ (Same.refl _) S' (.new f)
  · cases e
theorem bls_at {xs : List V} (r : Rdys K κ G σ γ B [.lst ts] xs) (S : Sta K N G κ σ H γ) {ns : List Bool} (e : blsOf ts = some ns) : ∃ a, xs = [.ref a] ∧ SqL K H a (ns.map V.bl) := by
  obtain ⟨v, rfl, r1⟩ := r.one
  obtain ⟨a, vs, rfl, h1, r2⟩ := r1.list S
  rw [blsOf_some e] at r2
  rw [r2.bls] at h1
  exact ⟨a, rfl, .inl (.inl h1)⟩
theorem fn_all : FnT K (rAll K) false gAll := by
  intro N G κ σ H γ B ts tz xs S r e Q q
  unfold gAll at e
  split at e
  · obtain ⟨ns, h1, h2⟩ := Option.map_eq_some_iff.mp e
    cases h2
    obtain ⟨a, rfl, h3⟩ := bls_at r S h1
    exact ⟨a, ns, rfl, h3, q _ G H (Same.refl _) S (.old .bl)⟩
  · cases e
theorem fn_any : FnT K (rAny K) false gAny := by
  intro N G κ σ H γ B ts tz xs S r e Q q
  unfold gAny at e
  split at e
  · obtain ⟨ns, h1, h2⟩ := Option.map_eq_some_iff.mp e
    cases h2
    obtain ⟨a, rfl, h3⟩ := bls_at r S h1
    exact ⟨a, ns, rfl, h3, q _ G H (Same.refl _) S (.old .bl)⟩
  · cases e
/-- a built-in that a module has under a name of its own -/
theorem sx_callF {r : List V → Hp → VK → Prop} {g : List T → Option T} (hc : CallR X (.builtin id) r) (hg : FnT X.K r m g) (hgl : Gl X x) (hm : X.mg x = some (.builtin id)) (ha : SA X (e :: es) B M κ g1)
    (hdb : (x == ("__debug__" : Str)) = false := by decide) (he : starEach (e :: es) X.env = (false, eval e X.env) :: starEach es X.env := by rfl) (hpl : (backTo pos (starEach es X.env)).any (·.1) = false := by rfl) :
    SX X (.Call (.Name x p) (e :: es) [] pos) m [] M κ (eCall g g1) := PE.weak (pe_callBfun hc hgl hm ha hdb he hpl) (call_of hg)
/-- list(range(..)) -/
abbrev Rx := En → Option (Int × Int × En)
def rx1 (f : Ex) : Rx := fun γ => match f γ with
  | some (.int j, γ') => some (0, j, γ')
  | _ => none
def rx2 (f1 f2 : Ex) : Rx := fun γ => (f1 γ).bind fun p => (f2 p.2).bind fun q => match p.1, q.1 with
  | .int i, .int j => some (i, j, q.2)
  | _, _ => none
def eListR (f : Rx) : Ex := fun γ => (f γ).bind fun p => if -(2 ^ 62) ≤ p.1 ∧ p.1 < 2 ^ 62 ∧ -(2 ^ 62) ≤ p.2.1 ∧ p.2.1 < 2 ^ 62 ∧ (p.2.1 - p.1).toNat ≤ 2 ^ 24 then some (.lst (rngT p.1 (p.2.1 - p.1).toNat), p.2.2) else none
def cR (K : PySem.W.Frag) (M : List Nat) (κ : List Bool) (f : Rx) : L2.St → Hp → (Int → Int → Hp → Prop) → Prop := fun σ H Q => ∃ N G γ i j γ', Sta K N G κ σ H γ ∧ f γ = some (i, j, γ') ∧
  ∀ G' H', Same G G' → Sta K N G' κ σ H' γ' → Keeps M γ γ' → Q i j H'
abbrev SR (X : Cx) (e : Expr) (M : List Nat) (κ : List Bool) (f : Rx) : Prop := PRg X e (cR X.K M κ f)
theorem sr_1 (hg : Gl X "range") (hm : X.mg "range" = none) (ha : SX X a false B M κ f) (na : starEach [a] X.env = (false, eval a X.env) :: starEach [] X.env := by rfl) : SR X (.Call (.Name "range" p) [a] [] pos) M κ (rx1 f) := by
  intro pins s σ H R I ⟨N, G, γ, i, j, γ', S, ef, q⟩
  refine prg_1 hg hm ha na pins s σ H R I ?_
  unfold rx1 at ef
  split at ef
  case h_2 => cases ef
  rename_i e1
  cases ef
  exact ⟨N, G, γ, _, _, S, e1, fun v G1 H1 s1 S1 k1 r1 => ⟨j, r1.rdy.int S1, q G1 H1 s1 S1 k1⟩⟩
theorem sr_2 (hg : Gl X "range") (hm : X.mg "range" = none) (ha : SX X a false B1 M1 κ f1) (hb : SX X b false B2 M2 κ f2) (na : starEach [a, b] X.env = (false, eval a X.env) :: starEach [b] X.env := by rfl) (nb : starEach [b] X.env = (false, eval b X.env) :: starEach [] X.env := by rfl) (hpl : (backTo pos (starEach [b] X.env)).any (·.1) = false := by rfl) :
    SR X (.Call (.Name "range" p) [a, b] [] pos) (M1 ++ M2) κ (rx2 f1 f2) := by
  intro pins s σ H R I ⟨N, G, γ, i, j, γ', S, ef, q⟩
  refine prg_2 hg hm ha hb na nb hpl pins s σ H R I ?_
  unfold rx2 at ef
  obtain ⟨⟨t1, γ1⟩, e1, ef⟩ := Option.bind_eq_some_iff.mp ef
  obtain ⟨⟨t2, γ2⟩, e2, ef⟩ := Option.bind_eq_some_iff.mp ef
  dsimp only at ef
  split at ef
  case h_2 => cases ef
  cases ef
  refine ⟨N, G, γ, _, γ1, S, e1, fun v1 G1 H1 s1 S1 k1 r1 => ⟨N, G1, γ1, _, _, S1, e2, fun v2 G2 H2 s2 S2 k2 r2 => ?_⟩⟩
  exact ⟨i, j, r1.rdy.int S1, r2.rdy.int S2, q G2 H2 (s1.trans s2) S2 (k1.trans k2)⟩
theorem rngT_reps (lo : Int) : ∀ n : Nat, Reps K G (rngT lo n) ((List.range n).map fun i => V.int (lo + (i : Nat))) := fun n => by
  have : rngT lo n = ((List.range n).map fun i => lo + ((i : Nat) : Int)).map T.int := by unfold rngT; rw [List.map_map]; rfl
  rw [this]
  have h2 : ((List.range n).map fun i => V.int (lo + (i : Nat))) = ((List.range n).map fun i => lo + ((i : Nat) : Int)).map V.int := by rw [List.map_map]; rfl
  rw [h2]
  exact Reps.ints_of _
theorem sx_listR {fr : Rx} (hc : X.calm = true) (hg : Gl X "list") (hm : X.mg "list" = none) (he : SR X e M κ fr) (na : starEach [e] X.env = (false, eval e X.env) :: starEach [] X.env := by rfl) : SX X (.Call (.Name "list" p) [e] [] pos) true [] M κ (eListR fr) :=
  PE.weak (pe_listRg hc hg hm he na) fun σ H Q ⟨N, G, γ, r, γ', S, ef, q⟩ => by
  unfold eListR at ef
  obtain ⟨⟨i, j, γ1⟩, e1, ef⟩ := Option.bind_eq_some_iff.mp ef
  split at ef <;> cases ef
  rename_i hz
  refine ⟨N, G, γ, i, j, _, S, e1, fun G1 H1 s1 S1 k1 => ⟨hz, fun l hl => ?_⟩⟩
  obtain ⟨S2, f⟩ := S1.listed hl (rngT_reps i (j - i).toNat)
  exact q _ G1 _ s1 S2 k1 (.new f)
/-- range(i, j, c) walked -/
def rngC (lo c : Int) (n : Nat) : List T := (List.range n).map fun k => T.int (lo + (k : Nat) * c)
def iR3 (a : Ax) : Ix := fun γ => match a γ with
  | some ([.int i, .int j, .int c], γ') => if c ≠ 0 ∧ c.natAbs < 1073741824 ∧ Builtin.Range.small i j c = true then some (rngC i c (Builtin.Range.rangeSize i j c).toNat, γ') else none
  | _ => none
theorem wk_rngC {lo c : Int} {n : Nat} : Wk K κ σ γ B (rngC lo c n) G (Itc lo c n) := by
  intro i N1 G1 κ1 σ1 H1 γ1 s S _
  refine ⟨fun t ht => ?_, fun hi => show n ≤ i by simpa [rngC] using hi⟩
  unfold rngC at ht
  rw [List.getElem?_map] at ht
  by_cases hi : i < n
  · rw [List.getElem?_range hi] at ht
    cases ht
    refine ⟨hi, fun x H2 ⟨e, hy⟩ => ?_⟩
    subst e hy
    exact ⟨G1, Same.refl _, S, .int⟩
  · rw [List.getElem?_eq_none (by simpa using hi)] at ht
    cases ht
/-- enumerate of a list -/
def enuT (ts : List T) : List T := ts.mapIdx fun i t => T.tup [.int (i : Nat), t]
def iEnu (f : Ex) : Ix := fun γ => match f γ with
  | some (.lst ts, γ') => some (enuT ts, γ')
  | _ => none
theorem rdy_walk {ts : List T} (S0 : Sta K N G κ σ H γ) (r : Rdy K κ G σ γ B (.lst ts) v) : ∃ a vs, v = .ref a ∧ SqL K H a vs ∧ ∀ (N1 : Nt) (G1 : Hp) (κ1 : List Bool) (σ1 : L2.St) (H1 : Hp) (γ1 : En), Same G G1 → Sta K N1 G1 κ1 σ1 H1 γ1 →
    (∀ j : Nat, j ∈ B → κ1[j]? = some true ∧ γ1[j]? = γ[j]? ∧ σ1[j]? = σ[j]?) → ∃ vs, SqL K H1 a vs ∧ Reps K G1 ts vs := by
  rcases r with r | ⟨j, hj, k, g, e⟩
  · unfold Rep at r
    obtain ⟨a, vs, e, s, q⟩ := r
    exact ⟨a, vs, e, .inl (.inl (S0.le _ _ s)), fun N1 G1 κ1 σ1 H1 γ1 s1 S1 _ => ⟨vs, .inl (.inl (S1.le _ _ (s1 _ _ s))), q.mono s1⟩⟩
  · obtain ⟨a, o, e1, _, e3, ⟨vs0, rfl, q0⟩, _⟩ := S0.own j _ k g
    rw [e] at e1
    cases e1
    refine ⟨a, vs0, rfl, .inl (.inl e3), fun N1 G1 κ1 σ1 H1 γ1 s1 S1 hB => ?_⟩
    obtain ⟨b1, b2, b3⟩ := hB j hj
    rw [g] at b2
    rw [e] at b3
    obtain ⟨a', o', q1, _, q3, ⟨vs, rfl, r⟩, _⟩ := S1.own j _ b1 b2
    rw [b3] at q1
    cases q1
    exact ⟨vs, .inl (.inl q3), r⟩
theorem si_enu {elts : List Expr} {kk : Nat} (hg : Gl X "enumerate") (hm : X.mg "enumerate" = none) (ha : SX X e false B M κ f) (hs : starEach [e] X.env = [(false, eval e X.env)] := by rfl) (hs2 : starEach [e] X.env = (false, eval e X.env) :: starEach [] X.env := by rfl) :
    SI X (.Tuple elts kk tpos) (.Call (.Name "enumerate" p) [e] [] pos) B M κ (iEnu f) := PI.weak (pi_enum hg hm (pa_cons ha pa_nil hs2) hs) fun σ H R ⟨N, G, γ, r, γ', S, ef, q⟩ => by
  unfold iEnu at ef
  split at ef
  case h_2 => cases ef
  rename_i ts γ1 e1
  cases ef
  refine ⟨N, G, γ, _, _, S, e1, fun v G1 H1 s1 S1 k1 r1 => ?_⟩
  obtain ⟨a, vs, rfl, h1, h2⟩ := rdy_walk S1 r1.rdy
  refine ⟨a, vs, rfl, h1, q _ G1 H1 s1 S1 k1 fun i N2 G2 κ2 σ2 H2 γ2 s2 S2 hB => ?_⟩
  obtain ⟨vs2, h3, h4⟩ := h2 N2 G2 κ2 σ2 H2 γ2 s2 S2 hB
  refine ⟨fun t ht => ?_, fun hi => ⟨vs2, h3, by rw [h4.length]; simpa [enuT] using hi⟩⟩
  unfold enuT at ht
  rw [List.getElem?_mapIdx] at ht
  obtain ⟨t0, ht0, rfl⟩ := Option.map_eq_some_iff.mp ht
  obtain ⟨v0, h5, h6⟩ := h4.get ht0
  refine ⟨⟨vs2, v0, h3, h5⟩, fun x H3 ⟨Tt, x0, e1, e2, e3, e4⟩ => ?_⟩
  have := e4 vs2 h3
  rw [h5] at this
  cases this
  subst e1 e3
  exact S2.tupled e2 (.cons .int (.cons h6 .nil))
/-- isinstance of a built-in class -/
def gIsi (n : String) : T → Option T := fun t => (isiB n t).map T.bl
theorem Rdy.ty (r : Rdy K κ G σ γ B t v) (S : Sta K N G κ σ H γ) (h : ∀ ts, t ≠ .old ts) : TyX K H v (.type (tagT t)) := by
  cases t with
  | non => rw [r.non S]; exact .base .non
  | bl b => rw [r.bl S]; exact .base (.bl b)
  | int i => rw [r.int S]; exact .base (.int i)
  | str z => rw [r.str S]; exact .base (.str z)
  | tup ts =>
    obtain ⟨a, vs, rfl, h1, _⟩ := r.tuple S
    rcases h1 with (h1 | ⟨o, h1⟩) | ⟨o, its, n, h1, h2, _⟩
    · exact .base (.tup h1)
    · exact .fTuple h1
    · exact .kTuple h1 h2
  | lst ts => obtain ⟨a, vs, rfl, h1, _⟩ := r.list S; exact .base (.lst h1)
  | dct ks ts =>
    obtain ⟨a, o, rfl, h1, ⟨kvs, rfl, _⟩ | ⟨kvs, rfl, _⟩⟩ := r.dict S
    · exact .base (.dK h1)
    · exact .base (.dT h1)
  | old ts => exact absurd rfl (h ts)
theorem sx_isi (n : String) {tn : Str} (ha : SX X e false B M κ f) (hgl : Gl X "isinstance") (hm : X.mg "isinstance" = none) (hv : bootBuiltins "isinstance" = some (.builtin "isinstance")) (hg2 : Gl X tn) (hm2 : X.mg tn = none) (hv2 : bootBuiltins tn = some (.type n))
    (hn : tn ≠ "__name__" := by decide) (hdb : (tn == ("__debug__" : Str)) = false := by decide)
    (hs1 : starEach [.Name tn q] X.env = (false, eval (.Name tn q) X.env) :: starEach [] X.env := by rfl) (he : starEach [e, .Name tn q] X.env = (false, eval e X.env) :: starEach [.Name tn q] X.env := by rfl) (hpl : (backTo pos (starEach [.Name tn q] X.env)).any (·.1) = false := by rfl) :
    SX X (.Call (.Name "isinstance" p) [e, .Name tn q] [] pos) false [] M κ (eUn (gIsi n) f) :=
  PE.weak (pe_callB call_isi hgl hm hv (pa_cons ha (pa_cons (pe_bltn (v := V.ty n) hg2 hm2 hv2 rfl hn hdb) pa_nil hs1) he) (he := he) (hpl := hpl)) fun σ H Q ⟨N, G, γ, r, γ', S, ef, q⟩ => by
  unfold eUn at ef
  obtain ⟨⟨t1, γ1⟩, e1, ef⟩ := Option.bind_eq_some_iff.mp ef
  obtain ⟨t3, e3, ef⟩ := Option.map_eq_some_iff.mp ef
  cases ef
  obtain ⟨k, e4, rfl⟩ := Option.map_eq_some_iff.mp e3
  refine ⟨N, G, γ, t1, _, S, e1, fun v G1 H1 s1 S1 k1 r1 => ?_⟩
  have ho : ∀ ts, t1 ≠ .old ts := fun ts z => by rw [z] at e4; cases e4
  have hk : kitB (tagT t1) n = some k := by
    cases t1 <;> first | exact e4 | exact absurd rfl (ho _)
  exact ⟨v, .ty n, _, _, k, rfl, .ty n, r1.rdy.ty S1 ho, kit_ty hk, q _ G1 H1 s1 S1 k1 (.old .bl)⟩
end
end Tw

namespace Tw
open PySem PySem.Spec PyProof.Rows L2

/-! ### what stands behind the top -/
/-- the module's def x stands there -/
def Has (K : PySem.W.Frag) (mg : Str → Option Value) (x : Str) (st : Stmt) : Prop := ∃ (fa : Addr) (fd : FuncData), Fun K x x st fa fd ∧ mg x = some (.ref fa)
/-- the module's def x reckons F -/
def Known (P : Program) (w : World) (K : PySem.W.Frag) (mg : Str → Option Value) (x : Str) (k : Nat) (ps : List Str) (pk : List Bool) (rk : Bool) (F : Sem') : Prop :=
  ∃ (fa : Addr) (fd : FuncData), mg x = some (.ref fa) ∧ PySem.W.keepIn K (.ref fa) = true ∧ (∀ us : List Value, us.length = ps.length → bindArgs fd ⟨us, []⟩ = pure (ps.zip us)) ∧
    ∀ base : Heap, FnOk P w K mg base CX0 k fa fd ps (spF K pk rk F)
section
variable {P : Program} {w : World} {K : PySem.W.Frag} {mg : Str → Option Value} {x : Str} {st : Stmt} {k : Nat} {ps Ns : List Str} {pk κ' : List Bool} {rk : Bool} {F : Sem'} {F0 : Fs}
theorem Fun.bindsAll {qual : Str} {f : Addr} {fd : FuncData} (F : Fun K x qual st f fd)
    (h : ∀ (kV doc pm : Value) (an : Option Addr) (cdv ct : Value) (us : List Value), us.length = ps.length → bindArgs (PySem.W.fnOf x qual (defArgs st) (defBody st) (defScope st) .none kV doc pm an cdv ct) ⟨us, []⟩ = pure (ps.zip us)) :
    ∀ us : List Value, us.length = ps.length → bindArgs fd ⟨us, []⟩ = pure (ps.zip us) := by
  obtain ⟨oc, od, kV, doc, pm, an, cdv, ct, osl, rfl, lk, hcd⟩ := F.ex
  exact h kV doc pm an cdv ct
theorem known_def {pl : List Nat} (hH : Has K mg x st)
    (hbind : ∀ (kV doc pm : Value) (an : Option Addr) (cdv ct : Value) (us : List Value), us.length = ps.length → bindArgs (PySem.W.fnOf x x (defArgs st) (defBody st) (defScope st) .none kV doc pm an cdv ct) ⟨us, []⟩ = pure (ps.zip us))
    (sc : FnScope Ns ps (defScope st)) (hl : ps.length = pk.length) (hpl : plOf 0 pk = pl)
    (hb : ∀ (fa : Addr) (base : Heap) (cdv : Value) (A : Around) (outer : List Env) (s : Shared) (H : Hp) (E : XK), Room k (A.deeper (envOfC x (defScope st) s.heap.objs.size fa cdv)) →
      SSs (cxOf CX0 P w K mg base Ns x (defScope st) fa cdv A outer s H E).nox (defBody st) (pk ++ List.replicate (Ns.length - pk.length) false) κ' [] rk pl F0)
    (hr : rk = true → ∀ γ γ', F0 γ ≠ some (.nx γ')) : Known P w K mg x (k + 1) ps pk rk (semOf Ns.length pl F0) := by
  obtain ⟨fa, fd, hF, hm⟩ := hH
  subst hpl
  exact ⟨fa, fd, hm, hF.kp, Fun.bindsAll hF hbind, fun base => def_ok hF sc hl (hb fa base) hr⟩
theorem known_zero (hH : Has K mg x st)
    (hbind : ∀ (kV doc pm : Value) (an : Option Addr) (cdv ct : Value) (us : List Value), us.length = ps.length → bindArgs (PySem.W.fnOf x x (defArgs st) (defBody st) (defScope st) .none kV doc pm an cdv ct) ⟨us, []⟩ = pure (ps.zip us))
    (hF : ∀ ts, F ts = none) : Known P w K mg x k ps pk rk F := by
  obtain ⟨fa, fd, hF', hm⟩ := hH
  refine ⟨fa, fd, hm, hF'.kp, Fun.bindsAll hF' hbind, fun base => ⟨fun vs H Q E h => ?_, fun A outer s H args us vs Q E hr he hb hv h => ?_⟩⟩
  · obtain ⟨G, ts, r, outs, _, _, _, e, _⟩ := h
    rw [hF] at e
    cases e
  · obtain ⟨G, ts, r, outs, _, _, _, e, _⟩ := h
    rw [hF] at e
    cases e
theorem Known.mono {j : Nat} (h : Known P w K mg x j ps pk rk F) (hj : j ≤ k) : Known P w K mg x k ps pk rk F := by
  obtain ⟨fa, fd, a, b, c, d⟩ := h
  exact ⟨fa, fd, a, b, c, fun base => (d base).mono hj⟩
end
theorem sx_ownK {X : Cx} {x : Str} {k : Nat} {ps : List Str} {pk : List Bool} {rk : Bool} {F : Sem'} {e : Expr} {es : List Expr} {io M : List Nat} {κ : List Bool} {g1 : Ax} {p pos : Pos}
    (KN : Known X.prog X.w X.K X.mg x k ps pk rk F) (hr : Room k X.A) (hg : Gl X x) (ha : SAK X (e :: es) pk io M κ g1) (hn : io.Nodup := by decide)
    (hdb : (x == ("__debug__" : Str)) = false := by decide) (he : starEach (e :: es) X.env = (false, eval e X.env) :: starEach es X.env := by rfl) (hpl : (backTo pos (starEach es X.env)).any (·.1) = false := by rfl) :
    SX X (.Call (.Name x p) (e :: es) [] pos) rk [] (M ++ io) κ (eOwn F io g1) := by
  obtain ⟨fa, fd, hm, kp, hb, hF⟩ := KN
  exact sx_own' (E := E0) (hF X.base) hr hg hm kp (.all hb) pass0 ha hn hdb he hpl
theorem has_mk {K : PySem.W.Frag} {h : Heap} {mg : Str → Option Value} {x : Str} {st : Stmt} {f : Addr} {oc : Value} {od an : Option Addr} {sl : Array (Option Value)} {kV dc pm cd ct : Value} (X : K.In h) (G : h.Ns mainGlobals mg)
    (a : PySem.W.nsIn K mainGlobals x = some (some (.ref f))) (l : K.lookup f = some ⟨oc, od, .func (PySem.W.fnOf x x (defArgs st) (defBody st) (defScope st) .none kV dc pm an cd ct), sl⟩)
    (c : PySem.W.codeIn K cd x = true) (k : PySem.W.keepIn K (.ref f) = true) : Has K mg x st := ⟨f, _, fun_mk l c k, PySem.W.mg_of X G a⟩
theorem law_F {P : Program} {w : World} {K : PySem.W.Frag} {mg : Str → Option Value} {fa : Addr} {x nm : Str} {k : Nat} {pk : List Bool} {rk : Bool} {F : Sem'} (KN : Known P w K mg nm k [x] pk rk F) (hmg : mg nm = some (.ref fa)) :
    ∃ fd : FuncData, (∀ (s : Shared) (u : Value), BindsTo s fd ⟨[u], []⟩ [(x, u)]) ∧ ∀ base : Heap, K.In base → base.Ns mainGlobals mg → FnOk P w K mg base CX0 k fa fd [x] (spF K pk rk F) := by
  obtain ⟨fa', fd, hm, kp, hb, hF⟩ := KN
  have e := hmg.symm.trans hm
  cases e
  exact ⟨fd, fun s u => .of_eq (hb [u] rfl), fun base _ _ => hF base⟩
theorem ints_reps {K : PySem.W.Frag} {G : Hp} : ∀ ns : List Int, Reps K G (ns.map T.int) (ns.map V.int)
  | [] => Reps.nil
  | n :: ns => Reps.cons Rep.int (ints_reps ns)
theorem law_sp {K : PySem.W.Frag} {H : Hp} {a : Addr} {ns : List Int} {F : Sem'} {E : XK} (hS : SqL K H a (ns.map V.int)) (hF : F [.old (ns.map T.int)] = some (.bl true, [])) :
    spF K [false] false F [.ref a] H (fun v _ => v = .bl true) E := by
  refine ⟨H, [.old (ns.map T.int)], .bl true, [], Same.refl _, ⟨_, [], _, [], rfl, rfl, ?_, rfl, rfl⟩, List.nodup_nil, hF, fun v G' H' _ _ _ _ _ hr => ?_⟩
  · rw [if_neg (by decide)]
    unfold Rep
    exact ⟨a, _, rfl, hS, ints_reps ns⟩
  · unfold ResE at hr
    rw [if_neg (by decide)] at hr
    unfold Rep at hr
    exact hr
theorem sss_no {X : Cx} {sts : List Stmt} {κ κ' κb : List Bool} {rk : Bool} {pl : List Nat} : SSs X sts κ κ' κb rk pl sNo := PSs.weak pss_never fun D σ H ⟨N, G, γ, o, hp', S, ef, q⟩ => by cases ef
theorem hu65 {k : Nat} {A : Around} (r : Room k A) : A.units + 65 < cLine := by have := r.un; omega

def NoNx (F : Fs) : Prop := ∀ γ γ', F γ ≠ some (.nx γ')
theorem noNx_ret {f : Ex} : NoNx (sRet f) := fun γ γ' h => by
  unfold sRet at h
  obtain ⟨p, _, e⟩ := Option.map_eq_some_iff.mp h
  cases e
theorem noNx_no : NoNx sNo := fun γ γ' h => by cases h
theorem noNx_seq {F G : Fs} (h : NoNx G) : NoNx (sSeq F G) := fun γ γ' e => by
  unfold sSeq at e
  split at e
  · exact h _ _ e
  · rename_i h2
    exact h2 _ e
theorem noNx_if {c : Tx} {F G : Fs} (h1 : NoNx F) (h2 : NoNx G) : NoNx (sIf c F G) := fun γ γ' e => by
  unfold sIf at e
  obtain ⟨p, _, e⟩ := Option.bind_eq_some_iff.mp e
  split at e
  · exact h1 _ _ e
  · exact h2 _ _ e
theorem noNx_kill {i : Nat} {F : Fs} (h : NoNx F) : NoNx (sKill i F) := fun γ γ' e => h _ _ e

/-! ### values of the module that stay -/
def CstV (K : PySem.W.Frag) (t : T) (u : Value) : Prop := ∃ v : V, RelV v u ∧ ∀ G, Rep K G t v
def Cst (K : PySem.W.Frag) (mg : Str → Option Value) (x : Str) (t : T) : Prop := ∃ u : Value, mg x = some u ∧ CstV K t u
inductive CstVs (K : PySem.W.Frag) : List T → List Value → Prop
  | nil : CstVs K [] []
  | cons {t ts u us} : CstV K t u → CstVs K ts us → CstVs K (t :: ts) (u :: us)
theorem CstVs.get {K : PySem.W.Frag} {ts : List T} {us : List Value} (h : CstVs K ts us) : ∃ vs : List V, Vals vs us ∧ ∀ G, Reps K G ts vs := by
  induction h with
  | nil => exact ⟨[], .nil, fun _ => Reps.nil⟩
  | cons a _ ih =>
    obtain ⟨v, h1, h2⟩ := a
    obtain ⟨vs, h3, h4⟩ := ih
    exact ⟨v :: vs, .cons h1 h3, fun G => Reps.cons (h2 G) (h4 G)⟩
theorem CstVs.length {K : PySem.W.Frag} {ts : List T} {us : List Value} (h : CstVs K ts us) : us.length = ts.length := by
  induction h with
  | nil => rfl
  | cons _ _ ih => rw [List.length_cons, List.length_cons, ih]
theorem cv_int {K : PySem.W.Frag} {i : Int} {t : Nat} : CstV K (.int i) (.int i t) := ⟨.int i, ⟨t, rfl⟩, fun _ => Rep.int⟩
theorem cv_str {K : PySem.W.Frag} {x : Str} {t : Nat} : CstV K (.str x) (.str x t) := ⟨.str x, ⟨t, rfl⟩, fun _ => Rep.str⟩
theorem cv_bl {K : PySem.W.Frag} {b : Bool} : CstV K (.bl b) (.bool b) := ⟨.bl b, rfl, fun _ => Rep.bl⟩
theorem cv_non {K : PySem.W.Frag} : CstV K .non Value.none := ⟨.non, rfl, fun _ => by unfold Rep; rfl⟩
theorem cv_tup {K : PySem.W.Frag} {ts : List T} {us : List Value} {its : Array Value} {a : Addr} {d : Option Addr} {n : Nat} {sl : Array (Option Value)} (l : K.lookup a = some ⟨.type "tuple", d, .seq its n, sl⟩) (e : its.toList = us) (h : CstVs K ts us) (hs : ts.length ≤ sizeLine := by decide) : CstV K (.tup ts) (.ref a) := by
  obtain ⟨vs, h1, h2⟩ := h.get
  refine ⟨.ref a, rfl, fun G => ?_⟩
  unfold Rep
  refine ⟨a, vs, rfl, .inr ⟨_, its, n, l, rfl, rfl, ?_, e ▸ h1⟩, h2 G⟩
  rw [← h.length, ← e] at hs
  simpa using hs
theorem cst_mk {K : PySem.W.Frag} {h : Heap} {mg : Str → Option Value} {x : Str} {u : Value} {t : T} (X : K.In h) (G : h.Ns mainGlobals mg) (a : PySem.W.nsIn K mainGlobals x = some (some u)) (c : CstV K t u) : Cst K mg x t := ⟨u, PySem.W.mg_of X G a, c⟩
theorem sx_cst {X : Cx} {x : Str} {pos : Pos} {t : T} {κ : List Bool} (hg : Gl X x) (hm : Cst X.K X.mg x t) (hd : (x == ("__debug__" : Str)) = false := by decide) : SX X (.Name x pos) false [] [] κ (eLit t) := by
  obtain ⟨u, h1, v, h2, h3⟩ := hm
  exact sx_glob hg h1 h2 h3 hd
end Tw

namespace Zf
open PySem
open Sem (wp)
section
variable {M : Model} {A : Around} {E : Value → Shared → Prop} {s : Shared} {env : Env}
theorem callWith_typeKw0 {pos : Pos} {T : String} {first : List Value} {args : List (Bool × Sem Value)} {keywords : List (Option Str × Sem Value)} {Q : Value → Shared → Prop}
    (hplain : args.any (·.1) = false) (hkw : keywords.any (·.1.isNone) = false)
    (h : wpAny M A (evalArgs (.type T) true args keywords) (fun a s₁ => wpAny M A (call (.type T) (first ++ a.pos) a.kw) Q E s₁) E s) :
    wpAny M A (callWith pos (.type T) first args keywords) Q E s := by
  unfold callWith
  refine wpAny_bind (wpAny_holding (wpAny_mono h (fun a s₁ h₁ => wpAny_bind (wpAny_standAt ?_)) fun _ _ x => x))
  simp only [hplain, hkw, Bool.or_false]
  refine wpAny_bind (wpAny_pure ?_)
  exact wpAny_bind (wpAny_mono h₁ (fun r s₂ hr => wpAny_bind (wpAny_holding (wpAny_point (wpAny_pure hr)))) fun _ _ x => x)
theorem callWith_typeKw {pos : Pos} {T : String} {e : Expr} {rest : List Expr} {kws : List Keyword} {Q : Value → Shared → Prop}
    (h : wpAny M A (spliced (backTo pos (starEach (e :: rest) env))) (fun vs s₁ => wpAny M A (evalAll ((backToKw pos (keywordEach kws env)).map (·.2)))
      (fun kvs s₂ => wpAny M A (call (.type T) vs (((backToKw pos (keywordEach kws env)).filterMap (·.1)).zip kvs)) Q E s₂) E s₁) E s)
    (he : backTo pos (starEach (e :: rest) env) = (false, eval e env) :: backTo pos (starEach rest env) := by rfl)
    (hplain : (backTo pos (starEach (e :: rest) env)).any (·.1) = false := by rfl)
    (hall : (backToKw pos (keywordEach kws env)).all (·.1.isSome) = true := by rfl)
    (hkw : (backToKw pos (keywordEach kws env)).any (·.1.isNone) = false := by rfl) :
    wpAny M A (callWith pos (.type T) [] (backTo pos (starEach (e :: rest) env)) (backToKw pos (keywordEach kws env))) Q E s := by
  refine callWith_typeKw0 hplain hkw ?_
  rw [he] at h ⊢
  exact PyProof.Rows.evalArgs_kwB hall h
end
theorem typeCall_zipF (a b : Value) : checkTypeCall "zip" ⟨[a, b], [(Str.ofString "strict", .bool false)]⟩ = pure () := by kernel_rfl
theorem newCall_zipF (a b : Value) : checkBuiltinCall "zip.__new__" ⟨[.type "zip", a, b], [(Str.ofString "strict", .bool false)]⟩ = pure () := by kernel_rfl
theorem args_initF (o a b : Value) : argsOk "object.__init__" ⟨[o, a, b], [(Str.ofString "strict", .bool false)]⟩ := by unfold argsOk; kernel_rfl
set_option maxHeartbeats 4000000 in
theorem meets_zip_newF (l1 l2 : Addr) (xs ys : Array Value) :
    Meets (Builtin.«zip.__new__» ⟨[.type "zip", .ref l1, .ref l2], [(Str.ofString "strict", .bool false)]⟩) (fun _ R s => s.heap.IsList l1 xs ∧ s.heap.IsList l2 ys ∧
      R (.ok (.ret (.ref (zipH4 s.heap l1 l2).objs.size))) { s with heap := zipH5 s.heap l1 l2 }) :=
  .of_wp fun prog w A R s h => by
    obtain ⟨hp, g, d, tk, os⟩ := s; obtain ⟨hl1, hl2, h⟩ := h
    have hsub := sub_zip
    have hL1 : Heap.IsList (Shared.heap ⟨hp, g, d, tk, os⟩) l1 xs := hl1
    have hL2 : Heap.IsList (Shared.heap ⟨hp.push { cls := .type "list_iterator", data := .fields #[.ref l1, .int 0 0] }, g, d, tk, os⟩) l2 ys := Heap.IsList.push hl2 _
    have e1 : (Str.ofString "strict" != ("strict" : Str)) = false := by decide +kernel
    wp_walk using wpAny_pyIter_list hL1, wpAny_pyIter_list hL2
    exact ⟨_, rfl, h⟩
section
variable {prog : Program} {w : World} {A : Around} {E : Value → Shared → Prop} {s : Shared}
theorem call_zip_2F {l1 l2 : Addr} {xs ys : Array Value} {Q : Value → Shared → Prop} (hl1 : s.heap.IsList l1 xs) (hl2 : s.heap.IsList l2 ys)
    (h : ∀ h', IsZip h' (s.heap.objs.size + 4) (s.heap.objs.size + 2) (s.heap.objs.size + 3) .none → IsPair h' (s.heap.objs.size + 2) (.ref s.heap.objs.size) (.ref (s.heap.objs.size + 1)) →
      IsPair h' (s.heap.objs.size + 3) .none .none → h'.IsListIter s.heap.objs.size l1 0 → h'.IsListIter (s.heap.objs.size + 1) l2 0 → h'.objs.size = s.heap.objs.size + 5 →
      (∀ c o, s.heap.get? c = some o → h'.get? c = some o) → Q (.ref (s.heap.objs.size + 4)) { s with heap := h' }) :
    wpAny (model prog w) A (call (.type "zip") [.ref l1, .ref l2] [(Str.ofString "strict", .bool false)]) Q E s := by
  refine callType_newKw F.called_zip (by decide) (typeCall_zipF _ _) (newCall_zipF _ _) (fun obj => args_initF obj _ _) F.entry_zip_new
    (meets_zip_newF l1 l2 xs ys) ⟨hl1, hl2, ?_⟩
  have z1 : (zipH1 s.heap l1).objs.size = s.heap.objs.size + 1 := Heap.size_push ..
  have z2 : (zipH2 s.heap l1 l2).objs.size = s.heap.objs.size + 2 := by rw [Heap.size_push, z1]
  have z3 : (zipH3 s.heap l1 l2).objs.size = s.heap.objs.size + 3 := by rw [Heap.size_push, z2]
  have z4 : (zipH4 s.heap l1 l2).objs.size = s.heap.objs.size + 4 := by rw [Heap.size_push, z3]
  have z5 : (zipH5 s.heap l1 l2).objs.size = s.heap.objs.size + 5 := by rw [Heap.size_push, z4]
  have g5 : (zipH5 s.heap l1 l2).get? (zipH4 s.heap l1 l2).objs.size = some _ := Heap.get?_push_size _ rfl
  have g4 : (zipH5 s.heap l1 l2).get? (zipH3 s.heap l1 l2).objs.size = some _ := Heap.get?_push_of_some _ (Heap.get?_push_size _ rfl)
  have g3 : (zipH5 s.heap l1 l2).get? (zipH2 s.heap l1 l2).objs.size = some _ := Heap.get?_push_of_some _ (Heap.get?_push_of_some _ (Heap.get?_push_size _ rfl))
  have g2 : (zipH5 s.heap l1 l2).get? (zipH1 s.heap l1).objs.size = some _ := Heap.get?_push_of_some _ (Heap.get?_push_of_some _ (Heap.get?_push_of_some _ (Heap.get?_push_size _ rfl)))
  have g1 : (zipH5 s.heap l1 l2).get? s.heap.objs.size = some _ := Heap.get?_push_of_some _ (Heap.get?_push_of_some _ (Heap.get?_push_of_some _ (Heap.get?_push_of_some _ (Heap.get?_push_size _ rfl))))
  show _ ∧ _
  rw [z2, z3, z4] at g5
  rw [z1, z2] at g3
  rw [z3] at g4
  rw [z1] at g2
  rw [z4]
  exact ⟨⟨_, g5, rfl⟩, h _ g5 g3 g4 ⟨_, g1, rfl, rfl⟩ ⟨_, g2, rfl, rfl⟩ z5 fun c o x =>
    Heap.get?_push_of_some _ (Heap.get?_push_of_some _ (Heap.get?_push_of_some _ (Heap.get?_push_of_some _ (Heap.get?_push_of_some _ x))))⟩
end
end Zf
namespace Tw
open PySem PySem.Spec PyProof.Rows L2
theorem pi_zipF' {X : Cx} {e e2 : Expr} {ta : TA} {p pos tpos cp kp : Pos} {elts : List Expr} {kk : Nat} {j} (hg : Gl X "zip") (hm : X.mg "zip" = none) (ha : PA X [e, e2] ta)
    (hs : starEach [e, e2] X.env = (false, eval e X.env) :: starEach [e2] X.env := by rfl) (hpl : (backTo pos (starEach [e, e2] X.env)).any (·.1) = false := by rfl)
    (he : backTo pos (starEach [e, e2] X.env) = (false, eval e X.env) :: backTo pos (starEach [e2] X.env) := by rfl) :
    PI X (.Tuple elts kk tpos) (.Call (.Name "zip" p) [e, e2] [⟨some "strict", .Constant (.bool false) j cp, kp⟩] pos) (iZip X.K ta) := by
  refine ⟨fun pins s σ H R I h => ?_⟩
  refine PySem.wpAny_Call_Name_kw (ld_blt I hg hm PyProof.Rows.boot_zip (Zf.callWith_typeKw (thn (ha.run pos pins s σ H _ I h) fun us s1 ⟨vs, H1, I1, r1, q1⟩ => ?_) he hpl))
  refine PyProof.Rows.kws_cons (thn (pe_bl.run pins s1 σ H1 (fun v H2 => v = .bl false ∧ H2 = H1) I1 ⟨rfl, rfl⟩) fun v s2 ⟨v', H2, I2, rv, e1, e2⟩ => PyProof.Rows.kws_nil ?_)
  subst e1 e2
  obtain rfl : v = Value.bool false := rv
  obtain ⟨a, b, xs, ys, ex, hqx, hqy, q⟩ := q1
  subst ex
  cases r1 with
  | cons r rr =>
    cases rr with
    | cons r' rr =>
      cases rr
      cases r
      cases r'
      obtain ⟨its, rv, p1, _⟩ := I2.list hqx
      obtain ⟨its2, rv2, p2, _⟩ := I2.list hqy
      have la : a < s2.heap.objs.size := p1.lt
      have lb : b < s2.heap.objs.size := p2.lt
      refine Zf.call_zip_2F p1.isList p2.isList fun h' hz hTI hTO h1 h2 hsz hk => PySem.wpAny_pyIter_zip hz ?_
      have I3 : Inv X pins σ H2 { s2 with heap := h' } := I2.kept (t' := s2.toks) hk
      refine ⟨s2.heap.objs.size + 4, [s2.heap.objs.size + 4, s2.heap.objs.size + 2, s2.heap.objs.size + 3, s2.heap.objs.size, s2.heap.objs.size + 1], _, _, H2, rfl, I3, turn_zip (PySem.W.ktu_apart s2.heap.objs.size a b la lb), ⟨hz, hTI, ⟨_, _, hTO⟩, h1, h2⟩, fun c hcm => ?_, q⟩
      have e' : c = s2.heap.objs.size + 4 ∨ c = s2.heap.objs.size + 2 ∨ c = s2.heap.objs.size + 3 ∨ c = s2.heap.objs.size ∨ c = s2.heap.objs.size + 1 := by simpa using hcm
      have hle : s2.heap.objs.size ≤ c := by
        rcases e' with z | z | z | z | z
        · rw [z]; exact Nat.le_add_right _ _
        · rw [z]; exact Nat.le_add_right _ _
        · rw [z]; exact Nat.le_add_right _ _
        · rw [z]; exact Nat.le_refl _
        · rw [z]; exact Nat.le_add_right _ _
      exact I2.fpOk hle (I2.hok.fresh hle)
/-- zip of two lists -/
def zipT (ts us : List T) : List T := List.zipWith (fun t u => T.tup [t, u]) ts us
def iZipL (f g : Ex) : Ix := fun γ => match f γ with
  | some (.lst ts, γ1) => match g γ1 with
    | some (.lst us, γ2) => some (zipT ts us, γ2)
    | _ => none
  | _ => none
section
variable {X : Cx} {κ : List Bool} {f1 f2 : Ex} {B1 B2 M1 M2 : List Nat} {a b : Expr} {p pos tpos cp kp : Pos}
theorem zip_of {elts : List Expr} {kk : Nat} {ta tb : TE} {tg e : Expr} (hp : ∀ {ta tb : TE}, PE X a ta → PE X b tb → PI X tg e (iZip X.K (tCons ta (tCons tb tNil)))) (ha : SX X a false B1 M1 κ f1) (hb : SX X b false B2 M2 κ f2) (hd : ∀ i, i ∈ B1 → i ∉ M2) :
    SI X tg e (B1 ++ B2) (M1 ++ M2) κ (iZipL f1 f2) := PI.weak (hp ha hb) fun σ H R ⟨N, G, γ, r, γ', S, ef, q⟩ => by
  unfold iZipL at ef
  split at ef
  case h_2 => cases ef
  rename_i ts γ1 e1
  split at ef
  case h_2 => cases ef
  rename_i us γ2 e2
  cases ef
  refine ⟨N, G, γ, _, _, S, e1, fun v G1 H1 s1 S1 k1 r1 => ⟨N, G1, γ1, _, _, S1, e2, fun v2 G2 H2 s2 S2 k2 r2 => ?_⟩⟩
  have r1' := r1.rdy.mono s2 (fun i hi => k2 i (hd i hi)) (fun _ h => h)
  obtain ⟨a, vs, rfl, h1, h2⟩ := rdy_walk S2 r1'
  obtain ⟨b, ws, rfl, g1, g2⟩ := rdy_walk S2 r2.rdy
  refine ⟨a, b, vs, ws, rfl, h1, g1, q _ G2 H2 (s1.trans s2) S2 (k1.trans k2) fun i N3 G3 κ3 σ3 H3 γ3 s3 S3 hB => ?_⟩
  obtain ⟨vs2, h3, h4⟩ := h2 N3 G3 κ3 σ3 H3 γ3 s3 S3 fun j hj => hB j (List.mem_append_left _ hj)
  obtain ⟨ws2, g3, g4⟩ := g2 N3 G3 κ3 σ3 H3 γ3 s3 S3 fun j hj => hB j (List.mem_append_right _ hj)
  refine ⟨fun t ht => ?_, fun hi => ⟨vs2, ws2, h3, g3, ?_⟩⟩
  · unfold zipT at ht
    rw [List.getElem?_zipWith_eq_some] at ht
    obtain ⟨t0, u0, ht0, hu0, rfl⟩ := ht
    obtain ⟨v0, h5, h6⟩ := h4.get ht0
    obtain ⟨w0, g5, g6⟩ := g4.get hu0
    refine ⟨⟨vs2, ws2, v0, w0, h3, g3, h5, g5⟩, fun x H4 ⟨Tt, x0, y0, e1, e2, e3, e4, e5⟩ => ?_⟩
    have a1 := e4 vs2 h3
    rw [h5] at a1
    cases a1
    have a2 := e5 ws2 g3
    rw [g5] at a2
    cases a2
    subst e1 e3
    exact S3.tupled e2 (.cons h6 (.cons g6 .nil))
  · unfold zipT at hi
    rw [List.length_zipWith] at hi
    rw [h4.length, g4.length]
    omega
theorem si_zip {elts : List Expr} {kk : Nat} (hg : Gl X "zip") (hm : X.mg "zip" = none) (ha : SX X a false B1 M1 κ f1) (hb : SX X b false B2 M2 κ f2) (hd : ∀ i, i ∈ B1 → i ∉ M2 := by decide)
    (hs : starEach [a, b] X.env = (false, eval a X.env) :: starEach [b] X.env := by rfl) (hs2 : starEach [b] X.env = (false, eval b X.env) :: starEach [] X.env := by rfl) (hpl : (backTo pos (starEach [b] X.env)).any (·.1) = false := by rfl) :
    SI X (.Tuple elts kk tpos) (.Call (.Name "zip" p) [a, b] [] pos) (B1 ++ B2) (M1 ++ M2) κ (iZipL f1 f2) :=
  zip_of (elts := elts) (kk := kk) (ta := tVar 0) (tb := tVar 0) (fun ha hb => pi_zip hg hm (pa_cons ha (pa_cons hb pa_nil hs2) hs) hs hpl) ha hb hd
theorem si_zipF {elts : List Expr} {kk : Nat} {j} (hg : Gl X "zip") (hm : X.mg "zip" = none) (ha : SX X a false B1 M1 κ f1) (hb : SX X b false B2 M2 κ f2) (hd : ∀ i, i ∈ B1 → i ∉ M2 := by decide)
    (hs : starEach [a, b] X.env = (false, eval a X.env) :: starEach [b] X.env := by rfl) (hs2 : starEach [b] X.env = (false, eval b X.env) :: starEach [] X.env := by rfl) (hpl : (backTo pos (starEach [a, b] X.env)).any (·.1) = false := by rfl)
    (he : backTo pos (starEach [a, b] X.env) = (false, eval a X.env) :: backTo pos (starEach [b] X.env) := by rfl) :
    SI X (.Tuple elts kk tpos) (.Call (.Name "zip" p) [a, b] [⟨some "strict", .Constant (.bool false) j cp, kp⟩] pos) (B1 ++ B2) (M1 ++ M2) κ (iZipL f1 f2) :=
  zip_of (elts := elts) (kk := kk) (ta := tVar 0) (tb := tVar 0) (fun ha hb => pi_zipF' hg hm (pa_cons ha (pa_cons hb pa_nil hs2) hs) hs hpl he) ha hb hd
end
/-- insert -/
def gIns : T → List T → Option (T × T)
  | .lst ts, [.int i, u] => if ts.length < sizeLine ∧ 0 ≤ i ∧ i < 2 ^ 63 then some (.non, .lst (ts.take i.toNat ++ [u] ++ ts.drop i.toNat)) else none
  | _, _ => none
theorem mu_ins {K : PySem.W.Frag} : MutT K (fun x vs H Q => ∃ (l : Addr) (xs : List V) (i : Int) (y : V), x = .ref l ∧ vs = [.int i, y] ∧ H l = some (.lst xs) ∧ xs.length < sizeLine ∧ 0 ≤ i ∧ i < 2 ^ 63 ∧
    Q .non (upd H l (.lst (xs.take i.toNat ++ [y] ++ xs.drop i.toNat)))) gIns := by
  intro N G κ σ H γ ts xs a o t res t' S r ha ho e Q q
  unfold gIns at e
  split at e
  · split at e <;> cases e
    rename_i ts i u hz
    obtain ⟨vs, rfl, r1⟩ := ho
    unfold Reps at r
    obtain ⟨v, w, rfl, r2, r3⟩ := r
    unfold Rep at r2
    subst r2
    unfold Reps at r3
    obtain ⟨v2, w2, rfl, r4, r5⟩ := r3
    unfold Reps at r5
    subst r5
    exact ⟨a, vs, i, v2, rfl, rfl, ha, by rw [r1.length]; exact hz.1, hz.2.1, hz.2.2, q _ _ ⟨_, rfl, ((r1.take _).append (.cons r4 .nil)).append (r1.drop _)⟩ .non⟩
  · cases e
end Tw

namespace Tw
open PySem PySem.Spec PyProof.Rows L2
def rIntS : List V → Hp → VK → Prop := fun xs H Q => ((∃ i, xs = [.int i] ∧ Q (.int i) H) ∨ ∃ k, xs = [.bl k] ∧ Q (.int (if k then 1 else 0)) H) ∨ ∃ a n, xs = [.str a] ∧ PySem.intText? a = some n ∧ a.length ≤ 640 ∧ Q (.int n) H
theorem call_intS {X : Cx} : CallR X (.type "int") rIntS := by
  intro pins s σ H vs us Q I r h
  rcases h with h | h
  · exact call_int1 pins s σ H vs us Q I r h
  · exact call_int_str pins s σ H vs us Q I r h
/-- int of an int, a truth, a text -/
def gIntS : List T → Option T
  | [.int i] => some (.int i)
  | [.bl k] => some (.int (if k then 1 else 0))
  | [.str z] => if z.length ≤ 640 then (PySem.intText? z).map .int else none
  | _ => none
theorem fn_intS {K : PySem.W.Frag} : FnT K rIntS false gIntS := by
  intro N G κ σ H γ B ts tz xs S r e Q q
  unfold gIntS at e
  split at e
  · cases e
    obtain ⟨v, rfl, r1⟩ := r.one
    exact .inl (.inl ⟨_, by rw [r1.int S], q _ G H (Same.refl _) S (.old .int)⟩)
  · cases e
    obtain ⟨v, rfl, r1⟩ := r.one
    exact .inl (.inr ⟨_, by rw [r1.bl S], q _ G H (Same.refl _) S (.old .int)⟩)
  · split at e
    · rename_i hz
      obtain ⟨n, hn, rfl⟩ := Option.map_eq_some_iff.mp e
      obtain ⟨v, rfl, r1⟩ := r.one
      exact .inr ⟨_, n, by rw [r1.str S], hn, hz, q _ G H (Same.refl _) S (.old .int)⟩
    · cases e
  · cases e
/-- the signs of a text -/
def sgn (z : Str) : List T := z.cps.toList.map fun c => T.str ⟨#[c]⟩
def iSgn (f : Ex) : Ix := fun γ => match f γ with
  | some (.str z, γ') => some (sgn z, γ')
  | _ => none
section
variable {X : Cx} {K : PySem.W.Frag} {κ : List Bool} {σ : L2.St} {γ : En} {B M : List Nat} {G : Hp} {e : Expr} {f : Ex}
theorem wk_sgn {z : Str} : Wk K κ σ γ B (sgn z) G (Its z) := by
  intro i N1 G1 κ1 σ1 H1 γ1 s S _
  refine ⟨fun t ht => ?_, fun hi => show z.cps.size ≤ i by simpa [sgn] using hi⟩
  unfold sgn at ht
  rw [List.getElem?_map] at ht
  obtain ⟨c, hc, rfl⟩ := Option.map_eq_some_iff.mp ht
  have hc' : z.cps[i]? = some c := by simpa using hc
  obtain ⟨hi, _⟩ := Array.getElem?_eq_some_iff.mp hc'
  refine ⟨hi, fun x H2 ⟨e, c', h1, h2⟩ => ?_⟩
  rw [hc'] at h1
  cases h1
  subst e h2
  exact ⟨G1, Same.refl _, S, .str⟩
theorem si_str {tge : Expr} (h : SX X e false B M κ f) : SI X tge e [] M κ (iSgn f) := PI.weak (pi_str h) fun σ H R ⟨N, G, γ, r, γ', S, ef, q⟩ => by
  unfold iSgn at ef
  split at ef
  · rename_i z γ1 e1
    cases ef
    refine ⟨N, G, γ, _, _, S, e1, fun v G1 H1 s1 S1 k1 r1 => ?_⟩
    exact ⟨z, r1.rdy.str S1, q _ G1 H1 s1 S1 k1 wk_sgn⟩
  · cases ef
end
end Tw

namespace L2
open PySem PySem.Spec PyProof.Rows
/-! enumerate(text) -/
def Itxe (x : Str) : It := ⟨fun i _ => i < x.cps.size, fun i H v H' => ∃ T c, v = .ref T ∧ H T = none ∧ H' = upd H T (.tup [.int (i : Nat), .str ⟨#[c]⟩]) ∧ x.cps[i]? = some c, fun i _ => x.cps.size ≤ i⟩
theorem draws_str {prog : Program} {w : World} {A : Around} (hh : A.handled = none) (it : Addr) (x : Str) (t : Tok) (ty : String) (hty : ty = "str_ascii_iterator" ∨ ty = "str_iterator") :
    Draws prog w A it [it] x.cps.size (fun i v => ∃ c u, x.cps[i]? = some c ∧ v = .str ⟨#[c]⟩ u) (fun i h => h.IsStrIter it ty x t i) := by
  rcases hty with e | e
  · rw [e]; exact Draws.strAscii hh it x t
  · rw [e]; exact Draws.strWide hh it x t
theorem turn_enumX {P : Program} {w : World} {K : PySem.W.Frag} {elts : List Expr} {kk : Nat} {tpos : Pos} (e it : Addr) (x : Str) (t : Tok) (ty : String) (hty : ty = "str_ascii_iterator" ∨ ty = "str_iterator") :
    Turn P w K (.Tuple elts kk tpos) (Itxe x) [e, it] e (fun i h => (∃ old, IsEnum h e it ((i : Nat) : Int) old) ∧ h.IsStrIter it ty x t i ∧ e ≠ it ∧ i ≤ x.cps.size) where
  mem := by simp
  obj := fun i h st b hb => by
    obtain ⟨⟨old, he⟩, ⟨o, ho, hc, hd⟩, _⟩ := st
    have e' : b = e ∨ b = it := by simpa using hb
    rcases e' with z | z
    · rw [z]; exact ⟨_, he, fun v q => nomatch q⟩
    · rw [z]; exact ⟨o, ho, fun v q => by rw [hd] at q; cases q⟩
  keep := fun i h h' st k => let ⟨⟨old, he⟩, ⟨o, ho, r⟩, hne⟩ := st; ⟨⟨old, k e (by simp) _ he⟩, ⟨o, k it (by simp) o ho, r⟩, hne⟩
  item := by
    intro X hP hw hK hc i pins s σ H E I hf st hg
    subst hP hw hK
    obtain ⟨⟨old, he⟩, hit, hne, _⟩ := st
    have hg' : i < x.cps.size := hg
    have hel : e < s.heap.objs.size := Heap.lt_size he
    have hil : it < s.heap.objs.size := by obtain ⟨_, q, _⟩ := hit; exact Heap.lt_size q
    have D := draws_str (prog := X.prog) (w := X.w) (A := X.A.in1) (I.ok.hd hc) it x t ty hty
    refine wpAny_pyNext_enum_itemD D he hit hg' hne (by simpa using hne) fun v h' tk hP ho hit' hT hsz hk => ?_
    obtain ⟨c, u, hcx, rfl⟩ := hP
    refine ⟨_, rfl, wpAny_letOwnedTupleGo_enum (s := { s with heap := h', toks := tk + 1 }) ho fun h'' he' sb => ?_⟩
    have hT2 : h''.get? s.heap.objs.size = some { cls := .type "tuple", data := .seq #[.int i tk, .str ⟨#[c]⟩ u] } := (sb.2 _ (Nat.ne_of_gt hel)).trans hT
    have new : ObjOk X.prog X.w (upd H s.heap.objs.size (.tup [.int (i : Nat), .str ⟨#[c]⟩])) h'' s.heap.objs.size (.tup [.int (i : Nat), .str ⟨#[c]⟩]) :=
      ⟨by show 2 ≤ sizeLine; decide, [.int i tk, .str ⟨#[c]⟩ u], .cons ⟨_, rfl⟩ (.cons ⟨_, rfl⟩ .nil), ⟨_, hT2, rfl, _, rfl⟩⟩
    have I1 : Inv X pins σ (upd H s.heap.objs.size (.tup [.int (i : Nat), .str ⟨#[c]⟩])) { s with heap := h'', toks := tk + 1 } :=
      I.turnedNew (ch := [e, it]) (fun b ob hb q => (sb.2 b (fun z => hb (by simp [z]))).trans (hk b ob (fun z => hb (by simp [z])) (fun z => hb (by simp [z])) q)) hf (Nat.le_refl _) new
    refine ⟨.ref s.heap.objs.size, _, I1, rfl, ⟨_, c, rfl, I.hok.fresh (Nat.le_refl _), rfl, hcx⟩, ⟨⟨.str ⟨#[c]⟩ u, ?_⟩, ?_, hne, hg'⟩, fun b hb => ?_⟩
    · have e1 : ((i + 1 : Nat) : Int) = (i : Int) + 1 := by omega
      rw [e1]; exact he'
    · obtain ⟨o, ho', r⟩ := hit'
      exact ⟨o, (sb.2 it (Ne.symm hne)).trans ho', r⟩
    · have hb' : b < s.heap.objs.size := by
        have e' : b = e ∨ b = it := by simpa using hb
        rcases e' with z | z
        · rw [z]; exact hel
        · rw [z]; exact hil
      rw [upd_ne (Nat.ne_of_lt hb')]
      exact (hf b hb).1
  done := by
    intro X hP hw hK hc i pins s σ H E I hf st hg
    subst hP hw hK
    obtain ⟨⟨old, he⟩, hit, hne, hle⟩ := st
    have hi : i = x.cps.size := Nat.le_antisymm hle hg
    subst hi
    obtain ⟨f0, f1, f2, f3, f4, f5⟩ := hf it (by simp)
    have D := draws_str (prog := X.prog) (w := X.w) (A := X.A.in1) (I.ok.hd hc) it x t ty hty
    exact wpAny_pyNext_enum_endD D he hit fun h' eb => ⟨rfl, I.turned (t' := s.toks) (fun b o hb q => eb b o hb q) f0 f1 f3 f4 f5⟩
  self := fun A i s Q E st h => let ⟨⟨_, he⟩, _⟩ := st; wpAny_pyIter_enum he h
def iEnumX (ta : TA) : TI := fun σ H R => ta σ H fun vs H1 => ∃ x, vs = [.str x] ∧ R (Itxe x) H1
theorem pi_enumX {X : Cx} {e : Expr} {ta : TA} {p pos tpos : Pos} {elts : List Expr} {kk : Nat} (hg : Gl X "enumerate") (hm : X.mg "enumerate" = none) (ha : PA X [e] ta) (hs : starEach [e] X.env = [(false, eval e X.env)] := by rfl) :
    PI X (.Tuple elts kk tpos) (.Call (.Name "enumerate" p) [e] [] pos) (iEnumX ta) := by
  refine ⟨fun pins s σ H R I h => ?_⟩
  refine Call_ (ld_blt I hg hm boot_enumerate (PyProof.Rows.callWith_type1 (thn (ha.run pos pins s σ H _ I h) fun us s1 ⟨vs, H1, I1, r1, q1⟩ => ?_) hs rfl))
  obtain ⟨x, ex, q⟩ := q1
  subst ex
  cases r1 with
  | cons r rr =>
    cases rr
    obtain ⟨t, rfl⟩ := r
    refine call_enumerate_str fun h' he hit hsz hk => wpAny_pyIter_enum he ?_
    have I2 : Inv X pins σ H1 { s1 with heap := h' } := I1.kept (t' := s1.toks) hk
    refine ⟨s1.heap.objs.size + 1, [s1.heap.objs.size + 1, s1.heap.objs.size], _, _, H1, rfl, I2, turn_enumX (s1.heap.objs.size + 1) s1.heap.objs.size x t (strIterType x) (by unfold strIterType; split <;> simp), ⟨⟨.none, he⟩, hit, Nat.succ_ne_self _, Nat.zero_le _⟩, fun b hb => ?_, q⟩
    have e' : b = s1.heap.objs.size + 1 ∨ b = s1.heap.objs.size := by simpa using hb
    have hle : s1.heap.objs.size ≤ b := by
      rcases e' with z | z
      · rw [z]; exact Nat.le_add_right _ _
      · rw [z]; exact Nat.le_refl _
    exact I1.fpOk hle (I1.hok.fresh hle)
/-! text[::-1] -/
def revS (z : Str) : Str := ⟨z.cps.toList.reverse.toArray⟩
theorem picked_revS (z : Str) : (⟨((Builtin.Str.strSliceIndices none none (-1) z.length).filterMap (z.cps[·]?)).toArray⟩ : Str) = revS z := by
  unfold revS
  congr 2
  rw [picked_rev, filterMap_get]
  · refine List.ext_getElem (by simp [Str.length]) fun k h1 h2 => ?_
    have hk : k < z.cps.size := by simpa [Str.length] using h1
    have : z.length - 1 - k < z.cps.size := by show z.cps.size - 1 - k < z.cps.size; omega
    rw [List.getElem_map, List.getElem_map, List.getElem_range, List.getElem_reverse, Array.getD_eq_getD_getElem?, Array.getElem?_eq_getElem this]
    rfl
  · intro i hi
    obtain ⟨k, hk, rfl⟩ := List.mem_map.mp hi
    have hk' : k < z.length := List.mem_range.mp hk
    show z.length - 1 - k < z.length
    omega
def tRevX (te : TE) : TE := fun σ H Q => te σ H fun x H1 => ∃ z, x = .str z ∧ z.length ≤ sizeLine ∧ Q (.str (revS z)) H1
theorem pe_revX {X : Cx} {e : Expr} {te : TE} {k : Nat} {p1 p2 p3 pos : Pos} (he : PE X e te) : PE X (.Subscript e (.Slice none none (some (.UnaryOp .USub (.Constant (.int 1) k p1) p2)) p3) pos) (tRevX te) := by
  refine ⟨fun pins s σ H Q I h => ?_⟩
  refine Subscript_ (thn (he.run pins s σ H _ I h) fun v s1 ⟨x, H1, I1, r1, q1⟩ => ?_)
  obtain ⟨z, ex, hx, q⟩ := q1
  subst ex
  obtain ⟨tz, rfl⟩ := r1
  have hst : PO X (some (.UnaryOp .USub (.Constant (.int 1) k p1) p2)) (tPart (tUn (rU fun i => .int (-i)) (tC (.int 1)))) := po_some (pe_un un_neg pe_int)
  refine wpAny_Slice (thn (po_none.run pins s1 σ H1 (fun o H2 => o = none ∧ H2 = H1) I1 ⟨rfl, rfl⟩) fun vl s2 ⟨l, H2, I2, pl, el, e2⟩ => ?_)
  subst el e2
  refine thn (po_none.run pins s2 σ H2 (fun o H3 => o = none ∧ H3 = H2) I2 ⟨rfl, rfl⟩) fun vu s3 ⟨u, H3, I3, pu, eu, e3⟩ => ?_
  subst eu e3
  refine thn (hst.run pins s3 σ H3 (fun o H4 => o = some (-1) ∧ H4 = H3) I3 ⟨1, rfl, -1, rfl, rfl, rfl⟩) fun vs s4 ⟨o, H4, I4, ps, eo, e4⟩ => ?_
  subst eo e4
  have I5 : Inv X pins σ H4 { s4 with heap := s4.heap.push { cls := .type "slice", data := .fields #[vl, vu, vs] } } := I4.kept (t' := s4.toks) fun b ob q => Heap.get?_push_of_some _ q
  obtain ⟨l', rfl, hl'⟩ := IsPart.raw pl
  obtain ⟨u', rfl, hu'⟩ := IsPart.raw pu
  obtain ⟨st', rfl, hs'⟩ := IsPart.raw ps
  obtain rfl : l' = none := by cases l' with | none => rfl | some a => cases hl'
  obtain rfl : u' = none := by cases u' with | none => rfl | some a => cases hu'
  obtain ⟨⟨j, tj⟩, rfl, ej⟩ : ∃ a, st' = some a ∧ a.1 = -1 := by
    cases st' with
    | none => cases hs'
    | some a => exact ⟨a, rfl, by simpa using hs'⟩
  dsimp only at ej
  subst ej
  show wpAny (model X.prog X.w) X.A (subscriptTail e (.Slice none none (some (.UnaryOp .USub (.Constant (.int 1) k p1) p2)) p3) (.str z tz) (.ref s4.heap.objs.size)) (EP X pins σ Q) X.xe _
  refine tail_any (ops := [.str z tz, .ref s4.heap.objs.size]) (typeIs_str _ _ _) (PySem.F.slot_str_getitem.lookup) ?_ (by with_unfolding_all rfl)
  refine wpAny_getItem_str_slice (l := none) (u := none) (st := some (-1, tj)) ⟨_, Heap.get?_push_size _ rfl, rfl, rfl⟩ rfl ?_
  show Made.post (if ((-1 : Int) == 1 && (Builtin.Str.strSliceIndices none none (-1) z.length).length == z.length) = true then Made.val (.str z tz)
    else Made.str ⟨((Builtin.Str.strSliceIndices none none (-1) z.length).filterMap (z.cps[·]?)).toArray⟩) (EP X pins σ Q) _
  rw [if_neg (by simp), picked_revS]
  refine ⟨?_, .str _, H4, I5.tok _, ⟨_, rfl⟩, q⟩
  show (revS z).cps.size ≤ sizeLine
  unfold revS
  rw [List.size_toArray, List.length_reverse]
  exact hx
/-! k in d, as an operation -/
def rDIn (b : Bool) : R2 := fun x y H Q => ∃ a o, y = .ref a ∧ DGet H a x o ∧ Q (.bl (xor b o.isSome)) H
theorem op_din {X : Cx} (hu : X.A.units + 65 < cLine) : OpR X (compareOp .In) (rDIn false) := by
  intro pins s σ H x y v u Q I rx ry h
  obtain ⟨a, o, rfl, g, q⟩ := h
  obtain rfl : u = Value.ref a := ry
  exact d_in (by omega) I g rx fun s' I' => ⟨.bl o.isSome, H, I', rfl, by simpa using q⟩
theorem op_dnin {X : Cx} (hu : X.A.units + 65 < cLine) : OpR X (compareOp .NotIn) (rDIn true) := by
  intro pins s σ H x y v u Q I rx ry h
  obtain ⟨a, o, rfl, g, q⟩ := h
  obtain rfl : u = Value.ref a := ry
  exact d_notIn (by omega) I g rx fun s' I' => ⟨.bl (!o.isSome), H, I', rfl, by simpa using q⟩
end L2
namespace Tw
open PySem PySem.Spec PyProof.Rows L2
/-! the same for data -/
def iEnuX (f : Ex) : Ix := fun γ => match f γ with
  | some (.str z, γ') => some (enuT (sgn z), γ')
  | _ => none
def gRevX : T → Option T
  | .str z => if z.length ≤ sizeLine then some (.str (revS z)) else none
  | _ => none
def gSlX : T → Option Int → Option Int → Option T
  | .str z, lo, hi => if z.length ≤ sizeLine then some (.str (Txt.slice z lo hi)) else none
  | _, _, _ => none
/-- a sign in a text -/
def gInS : T → T → Option T
  | .str ⟨⟨[c]⟩⟩, .str z => some (.bl (decide (c ∈ z.cps.toList)))
  | _, _ => none
def gNotInS : T → T → Option T
  | .str ⟨⟨[c]⟩⟩, .str z => some (.bl (!decide (c ∈ z.cps.toList)))
  | _, _ => none
def gIndexX : T → T → Option T
  | .str a, .str b => match Builtin.Str.occurrences a b 0 a.length 1 with
    | i :: _ => some (.int (i : Nat))
    | [] => none
  | _, _ => none
section
variable {X : Cx} {K : PySem.W.Frag} {κ : List Bool} {σ : L2.St} {γ : En} {B B1 B2 M M1 M2 : List Nat} {G : Hp} {e a b : Expr} {f f1 f2 : Ex} {p pos tpos apos cpos : Pos}
theorem wk_enuX {z : Str} : Wk K κ σ γ B (enuT (sgn z)) G (Itxe z) := by
  intro i N1 G1 κ1 σ1 H1 γ1 s S _
  refine ⟨fun t ht => ?_, fun hi => show z.cps.size ≤ i by simpa [enuT, sgn] using hi⟩
  unfold enuT sgn at ht
  rw [List.getElem?_mapIdx, List.getElem?_map] at ht
  obtain ⟨c0, hc0, rfl⟩ := Option.map_eq_some_iff.mp ht
  obtain ⟨c, hc, rfl⟩ := Option.map_eq_some_iff.mp hc0
  have hc' : z.cps[i]? = some c := by simpa using hc
  obtain ⟨hi, _⟩ := Array.getElem?_eq_some_iff.mp hc'
  refine ⟨hi, fun x H2 ⟨Tt, c', h1, h2, h3, h4⟩ => ?_⟩
  rw [hc'] at h4
  cases h4
  subst h1 h3
  exact S.tupled h2 (.cons .int (.cons .str .nil))
theorem si_enuX {elts : List Expr} {kk : Nat} (hg : Gl X "enumerate") (hm : X.mg "enumerate" = none) (ha : SX X e false B M κ f) (hs : starEach [e] X.env = [(false, eval e X.env)] := by rfl) (hs2 : starEach [e] X.env = (false, eval e X.env) :: starEach [] X.env := by rfl) :
    SI X (.Tuple elts kk tpos) (.Call (.Name "enumerate" p) [e] [] pos) [] M κ (iEnuX f) := PI.weak (pi_enumX hg hm (pa_cons ha pa_nil hs2) hs) fun σ H R ⟨N, G, γ, r, γ', S, ef, q⟩ => by
  unfold iEnuX at ef
  split at ef
  case h_2 => cases ef
  rename_i z γ1 e1
  cases ef
  refine ⟨N, G, γ, _, _, S, e1, fun v G1 H1 s1 S1 k1 r1 => ?_⟩
  exact ⟨z, by rw [r1.rdy.str S1], q _ G1 H1 s1 S1 k1 wk_enuX⟩
theorem sx_revX {k : Nat} {p1 p2 p3 : Pos} (he : SX X e false B M κ f) : SX X (.Subscript e (.Slice none none (some (.UnaryOp .USub (.Constant (.int 1) k p1) p2)) p3) pos) false [] M κ (eUn gRevX f) :=
  PE.weak (pe_revX he) fun σ H Q ⟨N, G, γ, r, γ', S, ef, q⟩ => by
  unfold eUn at ef
  obtain ⟨⟨t1, γ1⟩, e1, ef⟩ := Option.bind_eq_some_iff.mp ef
  obtain ⟨t4, e4, ef⟩ := Option.map_eq_some_iff.mp ef
  cases ef
  dsimp only at e4
  unfold gRevX at e4
  split at e4
  case h_2 => cases e4
  rename_i z
  split at e4
  case isFalse => cases e4
  rename_i hz
  cases e4
  refine ⟨N, G, γ, _, _, S, e1, fun v1 G1 H1 s1 S1 k1 r1 => ?_⟩
  exact ⟨_, r1.rdy.str S1, hz, q _ G1 _ s1 S1 k1 (.old .str)⟩
theorem slt_txt : SlT K C8.rSlX false gSlX := by
  intro N G κ σ H γ B tx tz lo hi x S rx e Q q
  unfold gSlX at e
  split at e
  case h_2 => cases e
  rename_i z
  split at e
  case isFalse => cases e
  rename_i hz
  cases e
  exact ⟨z, rx.str S, hz, q _ G H (Same.refl _) S (.old .str)⟩
theorem o2_inS : Op2 K (fun x y H Q => ∃ (c : Nat) (z : Str), x = .str ⟨#[c]⟩ ∧ y = .str z ∧ Q (.bl (decide (c ∈ z.cps.toList))) H) false gInS := by
  intro N G κ σ H γ B B' tx ty tz x y S rx ry e Q q
  unfold gInS at e
  split at e
  case h_2 => cases e
  cases e
  exact ⟨_, _, rx.str S, ry.str S, q _ G H (Same.refl _) S (.old .bl)⟩
theorem o2_notInS : Op2 K (fun x y H Q => ∃ (c : Nat) (z : Str), x = .str ⟨#[c]⟩ ∧ y = .str z ∧ Q (.bl (!decide (c ∈ z.cps.toList))) H) false gNotInS := by
  intro N G κ σ H γ B B' tx ty tz x y S rx ry e Q q
  unfold gNotInS at e
  split at e
  case h_2 => cases e
  cases e
  exact ⟨_, _, rx.str S, ry.str S, q _ G H (Same.refl _) S (.old .bl)⟩
theorem sx_indexX (ha : SX X a false B1 M1 κ f1) (hb : SX X b false B2 M2 κ f2) (hd : ∀ i, i ∈ B1 → i ∉ M2 := by decide)
    (hbase : attributeBase a "index" X.env (eval a X.env) = eval a X.env := by rfl)
    (hfew : ((backTo cpos (starEach [b] X.env)).all (fun x => !x.1) && (backToKw cpos (keywordEach [] X.env)).all (fun x => x.1.isSome)
      && decide ([b].length + ([] : List Keyword).length + (if ([] : List Keyword).isEmpty then 0 else 1) < 30)) = true := by rfl)
    (hline : (apos.endLine == cpos.line) = true := by rfl) (hs : starEach [b] X.env = (false, eval b X.env) :: starEach [] X.env := by rfl) (hplain : (backTo cpos (starEach [] X.env)).any (·.1) = false := by rfl) :
    SX X (.Call (.Attribute a "index" apos) [b] [] cpos) false [] (M1 ++ M2) κ (eBin gIndexX f1 f2) :=
  PE.weak (pe_bm (T := "str") (id := "str.index") PySem.F.plainAttrs_str PySem.F.slot_str_index PySem.F.type_str_index mt_sindex ha (pa_cons hb pa_nil hs) hbase hfew hline hs hplain) fun σ H Q ⟨N, G, γ, r, γ', S, e, q⟩ => by
  unfold eBin at e
  obtain ⟨⟨t1, γ1⟩, e1, e⟩ := Option.bind_eq_some_iff.mp e
  obtain ⟨⟨t2, γ2⟩, e2, e⟩ := Option.bind_eq_some_iff.mp e
  obtain ⟨t3, e3, e⟩ := Option.map_eq_some_iff.mp e
  cases e
  dsimp only at e3
  unfold gIndexX at e3
  split at e3
  case h_2 => cases e3
  rename_i za zb
  split at e3
  case h_2 => cases e3
  rename_i i rest ho
  cases e3
  refine ⟨N, G, γ, _, γ1, S, e1, fun v1 G1 H1 s1 S1 k1 r1 => ?_⟩
  have v1e := r1.rdy.str S1
  subst v1e
  refine ⟨rfl, N, G1, γ1, _, γ2, S1, e2, fun v2 G2 H2 s2 S2 k2 r2 => ?_⟩
  exact ⟨_, _, i, rest, rfl, by rw [r2.rdy.str S2], ho, q _ G2 H2 (s1.trans s2) S2 (k1.trans k2) (.old .int)⟩
end
end Tw

namespace Tw
open PySem PySem.Spec PyProof.Rows L2
/-! ### sorted of any data -/
def pLe : V × PyData → V × PyData → Bool := PySem.W.dataLe false (fun p : V × PyData => p.2)
def rSortD (K : PySem.W.Frag) : List V → Hp → VK → Prop := fun xs H Q => ∃ (a : Addr) (bs : List (V × PyData)), xs = [.ref a] ∧ SqL K H a (bs.map (·.1)) ∧ (∀ b ∈ bs, Dp K H b.1 b.2) ∧ PySem.W.AllAlike (bs.map (·.2)) ∧ PySem.W.Sortable (bs.map (·.2)) ∧ (∀ b ∈ bs, b.2.depth ≤ 60) ∧
  ∀ p, H p = none → Q (.ref p) (upd H p (.lst ((bs.mergeSort pLe).map (·.1))))
section
variable {X : Cx}
theorem each_of {s : Shared} {pins : List (Addr × Obj)} {σ : L2.St} {H : Hp} (I : Inv X pins σ H s) : ∀ {bs : List (V × PyData)} {its : List Value}, Vals (bs.map (·.1)) its → (∀ b ∈ bs, Dp X.K H b.1 b.2) →
    PySem.W.EachIs (fun v (b : V × PyData) => RelV b.1 v) its bs ∧ PySem.W.EachIs (fun v (b : V × PyData) => ∃ as, Reads s.heap v b.2 as) its bs
  | [], its, r, _ => by
    cases r
    exact ⟨.nil, .nil⟩
  | b :: bs, its, r, h => by
    cases r with
    | cons r1 r2 =>
      obtain ⟨e1, e2⟩ := each_of I r2 fun b hb => h b (List.mem_cons_of_mem _ hb)
      exact ⟨.cons r1 e1, .cons (Dp.reads I b.2 b.1 _ (h b (List.mem_cons_self ..)) r1) e2⟩
theorem vals_each : ∀ {bs : List (V × PyData)} {its : List Value}, PySem.W.EachIs (fun v (b : V × PyData) => RelV b.1 v) its bs → Vals (bs.map (·.1)) its
  | [], _, .nil => .nil
  | b :: bs, _, .cons r1 r2 => .cons r1 (vals_each r2)
theorem cr_sortD (hu : X.A.units + 65 < cLine) : CallR X (.builtin "sorted") (rSortD X.K) := by
  intro pins s σ H vs us Q I r h
  obtain ⟨a, bs, rfl, hs, hd, hal, hk, hdp, q⟩ := h
  obtain ⟨its, rv, hl, hz⟩ := I.list hs
  rw [Vals.ref1 r]
  obtain ⟨e1, e2⟩ := each_of I rv hd
  rw [List.length_map] at hz
  refine PySem.W.sorted_data (enc := fun p : V × PyData => p.2) hl.isList e1 e2 hal hk hz (fun b hb => ?_) fun out ho eo => ?_
  · have := hdp b hb
    show X.A.units + 2 + b.2.depth < cLine
    omega
  · obtain ⟨ep, he'⟩ := PyProof.Rows.sortedAll_at s.heap its out.toArray
    have hv := vals_each eo
    have hlen : ((bs.mergeSort pLe).map (·.1)).length ≤ sizeLine := by
      rw [List.length_map, List.length_mergeSort]
      exact hz
    exact ⟨.ref _, upd H (s.heap.objs.size + 1) (.lst ((bs.mergeSort pLe).map (·.1))), I.laid (t' := s.toks) (fun _ _ => PyProof.Rows.sortedAll_old) (Nat.le_succ _) ⟨hlen, out, ep, hv, he'⟩, rfl, q _ (I.hok.fresh (Nat.le_succ _))⟩
end
open Classical in
/-- sorted of a list -/
noncomputable def gSortD : List T → Option T
  | [.lst ts] => if ts.all okT = true ∧ PySem.W.AllAlike (toDs ts) ∧ PySem.W.Sortable (toDs ts) then some (.lst (ts.mergeSort (PySem.W.dataLe false toD))) else none
  | _ => none
section
variable {K : PySem.W.Frag}
theorem call_sortD {X : Cx} (hu : X.A.units + 65 < cLine) : CallR X (.builtin "sorted") (rSortD X.K) := cr_sortD hu
theorem toDs_map : ∀ ts : List T, toDs ts = ts.map toD
  | [] => rfl
  | t :: ts => by show toD t :: toDs ts = _; rw [toDs_map ts]; rfl
theorem reps_pairs {G H : Hp} (h : Same G H) : ∀ {ts : List T} {vs : List V}, Reps K G ts vs → ts.all okT = true → (∀ b ∈ vs.zip (ts.map toD), Dp K H b.1 b.2 ∧ b.2.depth ≤ 60)
  | [], vs, r, _ => by simp
  | t :: ts, vs, r, e => by
    unfold Reps at r
    obtain ⟨v, r', rfl, a, b⟩ := r
    rw [List.all_cons, Bool.and_eq_true] at e
    intro b' hb
    simp only [List.map_cons, List.zip_cons_cons, List.mem_cons] at hb
    rcases hb with rfl | hb
    · obtain ⟨d, _, p⟩ := dp_of h 60 t v e.1 a
      exact ⟨d, p⟩
    · exact reps_pairs h b e.2 b' hb
theorem reps_of_pairs {G : Hp} : ∀ {ps : List (V × T)}, (∀ p ∈ ps, Rep K G p.2 p.1) → Reps K G (ps.map (·.2)) (ps.map (·.1))
  | [], _ => Reps.nil
  | p :: ps, h => Reps.cons (h p (List.mem_cons_self ..)) (reps_of_pairs fun q hq => h q (List.mem_cons_of_mem _ hq))
theorem pairs_rep {G : Hp} : ∀ {ts : List T} {vs : List V}, Reps K G ts vs → ∀ p ∈ vs.zip ts, Rep K G p.2 p.1
  | [], vs, r => by simp
  | t :: ts, vs, r => by
    unfold Reps at r
    obtain ⟨v, r', rfl, a, b⟩ := r
    intro p hp
    rw [List.zip_cons_cons, List.mem_cons] at hp
    rcases hp with rfl | hp
    · exact a
    · exact pairs_rep b p hp
theorem fn_sortD : FnT K (rSortD K) true gSortD := by
  intro N G κ σ H γ B ts tz xs S r e Q q
  unfold gSortD at e
  split at e
  · rename_i us
    split at e <;> cases e
    rename_i hg
    obtain ⟨g1, g2, g3⟩ := hg
    obtain ⟨v, rfl, r1⟩ := r.one
    obtain ⟨a, vs, rfl, h1, r2⟩ := r1.list S
    have hl := r2.length
    have z1 : (vs.zip (us.map toD)).map (·.1) = vs := List.map_fst_zip (by rw [List.length_map]; omega)
    have z2 : (vs.zip (us.map toD)).map (·.2) = toDs us := by rw [toDs_map]; exact List.map_snd_zip (by rw [List.length_map]; omega)
    have hp := reps_pairs S.le r2 g1
    refine ⟨a, vs.zip (us.map toD), rfl, ?_, fun b hb => (hp b hb).1, by rw [z2]; exact g2, by rw [z2]; exact g3, fun b hb => (hp b hb).2, fun p hn => ?_⟩
    · rw [z1]
      exact .inl (.inl h1)
    · -- the same order on values, on data, on trees
      have em : ∀ (ps : List (V × T)), ((ps.map fun p => (p.1, toD p.2)).mergeSort pLe).map (·.1) = (ps.mergeSort fun x y => PySem.W.dataLe false toD x.2 y.2).map (·.1) := by
        intro ps
        have : (ps.map fun p => (p.1, toD p.2)).mergeSort pLe = (ps.mergeSort fun x y => PySem.W.dataLe false toD x.2 y.2).map fun p => (p.1, toD p.2) := by
          symm
          exact List.map_mergeSort fun _ _ _ _ => rfl
        rw [this, List.map_map]
        rfl
      have e2 : vs.zip (us.map toD) = (vs.zip us).map fun p => (p.1, toD p.2) := by
        rw [List.zip_map_right]
        rfl
      have e3 : (vs.zip us).map (·.2) = us := List.map_snd_zip (by omega)
      have e4 : us.mergeSort (PySem.W.dataLe false toD) = ((vs.zip us).mergeSort fun x y => PySem.W.dataLe false toD x.2 y.2).map (·.2) := by
        conv => lhs; rw [← e3]
        symm
        exact List.map_mergeSort fun _ _ _ _ => rfl
      have rr : Reps K G (us.mergeSort (PySem.W.dataLe false toD)) (((vs.zip (us.map toD)).mergeSort pLe).map (·.1)) := by
        rw [e2, em, e4]
        refine reps_of_pairs fun p hp => ?_
        exact pairs_rep r2 p ((List.mergeSort_perm _ _).mem_iff.mp hp)
      obtain ⟨S', f⟩ := S.listed hn rr
      exact q _ G _ (Same.refl _) S' (.new f)
  · cases e
end
/-! ### walks over a list or a tuple, as it comes -/
def iAnyL (K : PySem.W.Frag) (te : TE) : TI := fun σ H R => te σ H fun v H1 => ∃ a, v = .ref a ∧ ((∃ xs, SqL K H1 a xs ∧ R (Itl K a) H1) ∨ (∃ xs, SqT K H1 a xs ∧ R (Itt K a) H1))
theorem pi_any {X : Cx} {tg l : Expr} {tl : TE} (hl : PE X l tl) : PI X tg l (iAnyL X.K tl) := by
  refine ⟨fun pins s σ H R I h => ?_⟩
  refine thn (hl.run pins s σ H _ I h) fun v s1 ⟨x, H1, I1, r1, q1⟩ => ?_
  obtain ⟨a, e, q⟩ := q1
  subst e
  cases r1
  rcases q with ⟨xs, hq, q⟩ | ⟨xs, hq, q⟩
  · obtain ⟨its, rv, p, hz⟩ := I1.list hq
    refine wpAny_pyIter_list p.isList ?_
    refine ⟨s1.heap.objs.size, [s1.heap.objs.size], _, _, H1, rfl, I1.kept (t' := s1.toks) fun b o e => Heap.get?_push_of_some _ e, turn_list a _, ⟨_, Heap.get?_push_size _ rfl, rfl, rfl⟩, fun b hb => ?_, q⟩
    have e : b = s1.heap.objs.size := by simpa using hb
    subst e
    exact I1.fpOk (Nat.le_refl _) (I1.hok.fresh (Nat.le_refl _))
  · obtain ⟨its, rv, p, hz⟩ := I1.tuple hq
    refine wpAny_pyIter_tuple (show s1.heap.IsTuple a its.toArray from p) ?_
    refine ⟨s1.heap.objs.size, [s1.heap.objs.size], _, _, H1, rfl, I1.kept (t' := s1.toks) fun b o e => Heap.get?_push_of_some _ e, turn_tuple a _, ⟨_, Heap.get?_push_size _ rfl, rfl, rfl⟩, fun b hb => ?_, q⟩
    have e : b = s1.heap.objs.size := by simpa using hb
    subst e
    exact I1.fpOk (Nat.le_refl _) (I1.hok.fresh (Nat.le_refl _))
def iAny (f : Ex) : Ix := fun γ => match f γ with
  | some (.lst ts, γ') => some (ts, γ')
  | some (.tup ts, γ') => some (ts, γ')
  | _ => none
theorem si_any {X : Cx} {tge e : Expr} {M : List Nat} {κ : List Bool} {f : Ex} (h : SX X e false [] M κ f) : SI X tge e [] M κ (iAny f) := PI.weak (pi_any h) fun σ H R ⟨N, G, γ, r, γ', S, ef, q⟩ => by
  unfold iAny at ef
  split at ef
  · rename_i ts γ1 e1
    cases ef
    refine ⟨N, G, γ, _, _, S, e1, fun v G1 H1 s1 S1 k1 r1 => ?_⟩
    obtain ⟨a, vs, rfl, h1, h2⟩ := wk_rdy S1 r1.rdy
    exact ⟨a, rfl, .inl ⟨vs, h1, q _ G1 H1 s1 S1 k1 h2⟩⟩
  · rename_i ts γ1 e1
    cases ef
    refine ⟨N, G, γ, _, _, S, e1, fun v G1 H1 s1 S1 k1 r1 => ?_⟩
    have r2 := r1.rdy.rep
    unfold Rep at r2
    obtain ⟨a, vs, rfl, h1, h2⟩ := r2
    exact ⟨a, rfl, .inr ⟨vs, Same.tup S1.le h1, q _ G1 H1 s1 S1 k1 (wk_tup h1 h2)⟩⟩
  · cases ef
end Tw

namespace Tw
open PySem PySem.Spec PyProof.Rows L2
/-! ### {k: v for .. in ..}: keys ints or texts, none twice -/
def toKey : T → Option Key
  | .int i => some (.inl i)
  | .str x => some (.inr x)
  | _ => none
theorem toKey_tK {t : T} {k : Key} (h : toKey t = some k) : t = tK k := by
  cases t <;> simp [toKey] at h <;> subst h <;> rfl
def dcompL (own : List Nat) (tg : T → En → Option En) (test : Tx) (kel vel : Ex) : List T → En → List (Key × T) → Option (List (Key × T) × En)
  | [], γ, acc => some (acc, γ)
  | t :: ts, γ, acc => (tg t (wipeE γ own)).bind fun γ1 => (test γ1).bind fun p => if p.1 then (kel p.2).bind fun y => (vel y.2).bind fun q => (toKey y.1).bind fun k => if (acc.any fun kv => decide (kv.1 = k)) = false ∧ acc.length < sizeLine then dcompL own tg test kel vel ts (backE γ q.2 own) (acc ++ [(k, q.1)]) else none
      else dcompL own tg test kel vel ts (backE γ p.2 own) acc
def eDComp (own : List Nat) (src : Ix) (tg : T → En → Option En) (test : Tx) (kel vel : Ex) : Ex := fun γ => (src γ).bind fun p => (dcompL own tg test kel vel p.1 p.2 []).map fun q => (.dct (q.1.map fun kv => tK kv.1) (q.1.map fun kv => kv.2), q.2)
section
variable {X : Cx} {K : PySem.W.Frag} {N N' : Nt} {G G' H H' : Hp} {σ σ' : L2.St} {γ γ' : En} {ts us : List T} {vs : List V} {t : T} {v : V}
variable {κ κ1 κ2 κb : List Bool} {own L : List Nat}
variable {pos : Pos} {B M M1 M2 M3 M4 : List Nat}
theorem rep_key {k : Key} (h : Rep K G (tK k) v) : v = kV k := by
  cases k with
  | inl i => unfold tK Rep at h; exact h
  | inr x => unfold tK Rep at h; exact h
theorem any_keys {acc : List (Key × T)} {kvs : List (Key × V)} {k : Key} (h : kvs.map (·.1) = acc.map (·.1)) : (kvs.any fun kv => decide (kv.1 = k)) = acc.any fun kv => decide (kv.1 = k) := by
  have e1 : (kvs.any fun kv => decide (kv.1 = k)) = (kvs.map (·.1)).any fun y => decide (y = k) := by rw [List.any_map]; rfl
  have e2 : (acc.any fun kv => decide (kv.1 = k)) = (acc.map (·.1)).any fun y => decide (y = k) := by rw [List.any_map]; rfl
  rw [e1, e2, h]
/-- the turns of a dict's comprehension -/
theorem dcomp_turns {J : It} {tg : T → En → Option En} {g : TG} {test : Tx} {tt : TT} {kel vel : Ex} {tk tv : TE} {items : List T} {res : List (Key × T)} {γe : En} {Dd : Addr} {Qd : Hp → Prop}
    (hg : ∀ v σ H Q, cG K L κ κ tg v σ H Q → g v σ H Q) (ht : ∀ σ H Q, cT K M2 κ test σ H Q → tt σ H Q) (hke : ∀ σ H Q, cE K false [] M3 κ kel σ H Q → tk σ H Q) (he : ∀ σ H Q, cE K false [] M4 κ vel σ H Q → tv σ H Q)
    (hL : ∀ j : Nat, j ∈ L → j ∈ own) (hk : ∀ j : Nat, j ∈ own → κ[j]? = some false) (hB : ∀ j : Nat, j ∈ B → j ∉ M2 ∧ j ∉ M3 ∧ j ∉ M4 ∧ j ∉ own)
    (hw : Wk K κ σ γ B items G J) (hBk : ∀ j : Nat, j ∈ B → κ[j]? = some true) (S : Sta K N G κ σ H γ) (hD : H Dd = none) (ho : dcompL own tg test kel vel items γ [] = some (res, γe))
    (q2 : ∀ G' H' kvs, Same G G' → Sta K N G' κ σ H' γe → Keeps (M2 ++ (M3 ++ M4)) γ γe → H' Dd = some (.dK kvs) → kvs.map (·.1) = res.map (·.1) → Reps K G' (res.map (·.2)) (kvs.map (·.2)) → G' Dd = none → (∀ (j : Nat) (u : T), κ[j]? = some true → γe[j]? = some (some u) → σ[j]? ≠ some (some (V.ref Dd))) → Qd H') :
    ∃ W : Nat → Nat → Hp → Prop, (∃ m, W 0 m (upd H Dd (.dK []))) ∧ ∀ i m H, W i m H →
      (J.stop i H ∧ Qd H) ∨ (J.go i H ∧ ∃ Nx : Hp → Prop, (∀ H', Nx H' → ∃ m', m' < m ∧ W (i + 1) m' H') ∧ ∀ x H', J.yld i H x H' → g x (wipe σ own) H' fun σ2 H2 => wipe σ2 own = wipe σ own ∧ tt σ2 H2 fun b H3 =>
        if b = true then tk σ2 H3 fun y H4 => tv σ2 H4 fun z H5 => ∃ kvs k, y = kV k ∧ H5 Dd = some (.dK kvs) ∧ kvs.length < sizeLine ∧ Nx (upd H5 Dd (.dK (putK kvs k z))) else Nx H3) := by
  have S0 : Sta K N G κ σ (upd H Dd (.dK [])) γ := S.laid hD
  have hDf := S.fresh hD
  refine ⟨fun i m H1 => m + i = items.length ∧ ∃ G1 γ1 acc kvs, Same G G1 ∧ Sta K N G1 κ σ H1 γ1 ∧ Keeps (M2 ++ (M3 ++ M4)) γ γ1 ∧ H1 Dd = some (.dK kvs) ∧ kvs.map (·.1) = acc.map (·.1) ∧ Reps K G1 (acc.map (·.2)) (kvs.map (·.2)) ∧ G1 Dd = none ∧ (∀ (j : Nat) (u : T), κ[j]? = some true → γ1[j]? = some (some u) → σ[j]? ≠ some (some (V.ref Dd))) ∧ dcompL own tg test kel vel (items.drop i) γ1 acc = some (res, γe),
    ⟨items.length, rfl, G, γ, [], [], Same.refl _, S0, .refl _ _, upd_same, rfl, .nil, hDf.1, fun j u k g e => ?_, by simpa using ho⟩, fun i m H1 ⟨hm, G1, γ1, acc, kvs, s1, S1, k1, d1, ke1, r1, n1, u1, h1⟩ => ?_⟩
  · obtain ⟨a, o, e1, _, e3, _⟩ := S.own j u k g
    rw [e] at e1
    cases e1
    rw [hD] at e3
    cases e3
  have kk : ∀ j, j ∈ B → γ1[j]? = γ[j]? := fun j hj => k1 j (by rw [List.mem_append, List.mem_append, not_or, not_or]; exact ⟨(hB j hj).1, (hB j hj).2.1, (hB j hj).2.2.1⟩)
  obtain ⟨w1, w2⟩ := hw i N G1 κ σ H1 γ1 s1 S1 (fun j hj => ⟨hBk j hj, kk j hj, rfl⟩)
  by_cases hi : i < items.length
  · have hit : items[i]? = some items[i] := List.getElem?_eq_getElem hi
    obtain ⟨wg, wy⟩ := w1 _ hit
    refine .inr ⟨wg, fun H1 => (m - 1) + (i + 1) = items.length ∧ ∃ G1 γ1 acc kvs, Same G G1 ∧ Sta K N G1 κ σ H1 γ1 ∧ Keeps (M2 ++ (M3 ++ M4)) γ γ1 ∧ H1 Dd = some (.dK kvs) ∧ kvs.map (·.1) = acc.map (·.1) ∧ Reps K G1 (acc.map (·.2)) (kvs.map (·.2)) ∧ G1 Dd = none ∧ (∀ (j : Nat) (u : T), κ[j]? = some true → γ1[j]? = some (some u) → σ[j]? ≠ some (some (V.ref Dd))) ∧ dcompL own tg test kel vel (items.drop (i + 1)) γ1 acc = some (res, γe),
      fun H' h => ⟨m - 1, by omega, h⟩, fun x H2 hy => ?_⟩
    obtain ⟨pins, R1, p1, p2, p3, p4⟩ := S1.reroot
    obtain ⟨_, p5⟩ := w1 _ hit
    have w1' := hw i ⟨H1, G1, pins⟩ G1 κ σ H1 γ1 s1 R1 (fun j hj => ⟨hBk j hj, kk j hj, rfl⟩)
    obtain ⟨G2, s2, R2, r2⟩ := (w1'.1 _ hit).2 x H2 hy
    have hDp : Dd ∉ pins.map (·.2) := fun hb => by
      obtain ⟨⟨j, a⟩, hq, e⟩ := List.mem_map.mp hb
      cases e
      obtain ⟨q1, ⟨u, q2⟩, q3⟩ := R1.pin _ hq
      exact u1 j u q1 q2 q3
    rw [List.drop_eq_getElem_cons hi] at h1
    unfold dcompL at h1
    obtain ⟨γ2, e2, h1⟩ := Option.bind_eq_some_iff.mp h1
    have nown : ∀ j, j ∈ own → j ∉ pins.map (·.1) := fun j hj hb => by
      obtain ⟨q, hq, e⟩ := List.mem_map.mp hb
      have := p1 q hq
      rw [e, hk j hj] at this
      cases this
    have R2w := R2.wiped nown
    refine hg _ _ _ _ ⟨⟨H1, G1, pins⟩, G2, wipeE γ1 own, _, γ2, fun j hj => nown j (hL j hj), R2w, r2, e2, fun σ2 R3 hσ => ?_⟩
    have l2 : σ2.length = σ.length := by
      have a1 := R2w.len
      have a2 := R3.len
      have a3 := R2w.klen
      have a4 := R3.klen
      rw [wipe_length] at a1
      omega
    have hσ2 : wipe σ2 own = wipe σ own := wipe_eq l2 fun j hj => by rw [(hσ j fun z => hj (hL j z)).1, wipe_ne hj]
    refine ⟨hσ2, ?_⟩
    · obtain ⟨⟨b, γ3⟩, e3, h1⟩ := Option.bind_eq_some_iff.mp h1
      have kw : ∀ j, j ∉ own → γ2[j]? = γ1[j]? := fun j hj => ((hσ j fun z => hj (hL j z)).2).trans (wipeE_ne hj)
      refine ht _ _ _ ⟨⟨H1, G1, pins⟩, G2, γ2, b, γ3, R3, e3, fun G3 H3 s3 R4 k3 => ?_⟩
      have dD : ∀ {G4 H4 γ4}, Sta K ⟨H1, G1, pins⟩ G4 κ σ2 H4 γ4 → H4 Dd = some (.dK kvs) ∧ G4 Dd = none := fun {G4 H4 γ4} R => by
        refine ⟨R.frm Dd _ d1 hDp, ?_⟩
        cases z : G4 Dd with
        | none => rfl
        | some o =>
          rcases R.gfr Dd (by rw [z]; simp) with y | y
          · exact absurd n1 y
          · have y' : H1 Dd = none := y
            rw [d1] at y'
            cases y'
      have nD : ∀ {G4 H4 γ4}, Sta K ⟨H1, G1, pins⟩ G4 κ σ H4 γ4 → ∀ (j : Nat) (u : T), κ[j]? = some true → γ4[j]? = some (some u) → σ[j]? ≠ some (some (V.ref Dd)) := fun {G4 H4 γ4} R j u k g e => by
        obtain ⟨a, o, q1, _, _, _, q5⟩ := R.own j u k g
        rw [e] at q1
        cases q1
        rcases q5 with q5 | q5
        · have y' : H1 Dd = none := q5
          rw [d1] at y'
          cases y'
        · exact hDp q5
      have step : ∀ {G4 H4 γ4}, Same G1 G4 → Sta K ⟨H1, G1, pins⟩ G4 κ σ2 H4 γ4 → Sta K ⟨H1, G1, pins⟩ G4 κ σ H4 (backE γ1 γ4 own) := fun {G4 H4 γ4} s R =>
        Sta.backed R1 R s hσ2 l2 hk
      cases b with
      | false =>
        dsimp only at h1 ⊢
        rw [if_neg Bool.false_ne_true] at h1 ⊢
        obtain ⟨y1, y2⟩ := dD R4
        have R5 := step (s2.trans s3) R4
        refine ⟨by omega, G3, _, acc, kvs, (s1.trans s2).trans s3, S1.unroot R5 p2 p3, fun j hj => ?_, y1, ke1, r1.mono (s2.trans s3), y2, nD R5, h1⟩
        rw [List.mem_append, not_or] at hj
        have l3 : γ3.length = γ1.length := by
          have a1 := R4.klen
          have a2 := R1.klen
          omega
        by_cases hjo : j ∈ own
        · rw [backE_at hjo l3]
          exact k1 j (by rw [List.mem_append, not_or]; exact hj)
        · rw [backE_ne hjo, k3 j hj.1, kw j hjo]
          exact k1 j (by rw [List.mem_append, not_or]; exact hj)
      | true =>
        dsimp only at h1 ⊢
        rw [if_pos rfl] at h1 ⊢
        obtain ⟨⟨y, γ4⟩, e4, h1⟩ := Option.bind_eq_some_iff.mp h1
        refine hke _ _ _ ⟨⟨H1, G1, pins⟩, G3, γ3, y, γ4, R4, e4, fun v G4 H4 s4 R5 k4 ry => ?_⟩
        obtain ⟨⟨z, γ5⟩, e5, h1⟩ := Option.bind_eq_some_iff.mp h1
        refine he _ _ _ ⟨⟨H1, G1, pins⟩, G4, γ4, z, γ5, R5, e5, fun v2 G5 H5 s5 R5' k5 rz => ?_⟩
        obtain ⟨k, ek, h1⟩ := Option.bind_eq_some_iff.mp h1
        split at h1
        · rename_i hz
          dsimp only at hz h1 ek
          have ry' : Rep K G4 (tK k) v := by rw [← toKey_tK ek]; exact ry.rdy.rep
          have ev := rep_key ry'
          obtain ⟨y1, y2⟩ := dD R5'
          have sz : kvs.length < sizeLine := by
            have := congrArg List.length ke1
            rw [List.length_map, List.length_map] at this
            rw [this]; exact hz.2
          have pk : putK kvs k v2 = kvs ++ [(k, v2)] := by
            unfold putK
            rw [any_keys ke1, hz.1, if_neg Bool.false_ne_true]
          have R6 := step (((s2.trans s3).trans s4).trans s5) R5'
          refine ⟨kvs, k, ev, y1, sz, by omega, G5, _, acc ++ [(k, z)], kvs ++ [(k, v2)], (((s1.trans s2).trans s3).trans s4).trans s5, ?_, fun j hj => ?_, by rw [pk]; exact upd_same, by rw [List.map_append, List.map_append, ke1]; rfl, ?_, y2, nD R6, h1⟩
          · have S6 := S1.unroot R6 p2 p3
            refine ⟨fun b x e => ?_, S6.len, S6.shr, fun j u k g => ?_, S6.sep, S6.klen, S6.pin, fun b x e n => ?_, S6.gle, S6.gfr⟩
            · rw [upd_ne (fun z => by rw [z, y2] at e; cases e)]
              exact S6.le b x e
            · obtain ⟨a, ob, q1, q2, q3, q4⟩ := S6.own j u k g
              refine ⟨a, ob, q1, q2, ?_, q4⟩
              rw [upd_ne]
              · exact q3
              · rintro rfl; exact nD R6 j u k g q1
            · rw [upd_ne]
              · exact S6.frm b x e n
              · rintro rfl; rw [hDf.2.1] at e; cases e
          · rw [List.mem_append, List.mem_append, not_or, not_or] at hj
            have l3 : γ5.length = γ1.length := by
              have a1 := R5'.klen
              have a2 := R1.klen
              omega
            by_cases hjo : j ∈ own
            · rw [backE_at hjo l3]
              exact k1 j (by rw [List.mem_append, List.mem_append, not_or, not_or]; exact hj)
            · rw [backE_ne hjo, k5 j hj.2.2, k4 j hj.2.1, k3 j hj.1, kw j hjo]
              exact k1 j (by rw [List.mem_append, List.mem_append, not_or, not_or]; exact hj)
          · rw [List.map_append, List.map_append]
            exact (r1.mono (((s2.trans s3).trans s4).trans s5)).append (.cons rz.rdy.rep .nil)
        · cases h1
  · refine .inl ⟨w2 (by omega), ?_⟩
    rw [List.drop_eq_nil_of_le (by omega)] at h1
    cases h1
    exact q2 G1 H1 kvs s1 S1 k1 d1 ke1 r1 n1 u1
theorem dc_of {wi : TI} {g : TG} {tt : TT} {tk tv : TE} {tg : T → En → Option En} {test : Tx} {kel vel : Ex} {src : Ix} {M : List Nat}
    (hi : ∀ σ H R, cI K B M κ src σ H R → wi σ H R) (hg : ∀ v σ H Q, cG K L κ κ tg v σ H Q → g v σ H Q) (ht : ∀ σ H Q, cT K M2 κ test σ H Q → tt σ H Q) (hke : ∀ σ H Q, cE K false [] M3 κ kel σ H Q → tk σ H Q) (he : ∀ σ H Q, cE K false [] M4 κ vel σ H Q → tv σ H Q)
    (hL : ∀ j : Nat, j ∈ L → j ∈ own) (hk : ∀ j : Nat, j ∈ own → κ[j]? = some false) (hB : ∀ j : Nat, j ∈ B → j ∉ M2 ∧ j ∉ M3 ∧ j ∉ M4 ∧ j ∉ own) (hBk : ∀ j : Nat, j ∈ B → κ[j]? = some true) :
    ∀ σ H Q, cE K true [] (M ++ (M2 ++ (M3 ++ M4))) κ (eDComp own src tg test kel vel) σ H Q → tDc wi g tt tk tv own σ H Q := by
  intro σ H Q ⟨N, G, γ, r, γ', S, ef, q⟩
  unfold eDComp at ef
  obtain ⟨⟨items, γ1⟩, e1, ef⟩ := Option.bind_eq_some_iff.mp ef
  obtain ⟨⟨res, γe⟩, e2, ef⟩ := Option.map_eq_some_iff.mp ef
  cases ef
  refine hi _ _ _ ⟨N, G, γ, items, γ1, S, e1, fun J G1 H1 s1 S1 k1 w1 Dd hD => ?_⟩
  refine dcomp_turns hg ht hke he hL hk hB w1 hBk S1 hD e2 fun G' H' kvs s2 S2 k2 d2 ke2 r2 n2 u2 => ?_
  refine q _ G' H' (s1.trans s2) S2 (k1.trans k2) (.new ⟨Dd, _, rfl, n2, d2, .inl ⟨kvs, rfl, ?_, r2⟩, (S1.fresh hD).2.1, u2⟩)
  have := congrArg (List.map tK) ke2
  rw [List.map_map, List.map_map] at this
  exact this.symm
theorem sx_dc {kx vx tge iter : Expr} {ifs : List Expr} {scope : Scope} {own' : List (Str × Nat)} {tg : T → En → Option En} {test : Tx} {kel vel : Ex} {src : Ix} {M : List Nat} (hc : X.calm = true) (hN : X.N.Nodup) (hi : SI X tge iter B M κ src) (ok : BlkOk X.N X.env.scope scope own')
    (hg : ∀ (s : Shared) (H : Hp) (C : Addr) (cl : List (Str × Addr)) (fp : List Addr), SG (X.blk s H scope (compEnvC scope cl C X.env) fp) tge L κ κ tg) (ht : ∀ (s : Shared) (H : Hp) (C : Addr) (cl : List (Str × Addr)) (fp : List Addr), STs (X.blk s H scope (compEnvC scope cl C X.env) fp) ifs M2 κ test)
    (hke : ∀ (s : Shared) (H : Hp) (C : Addr) (cl : List (Str × Addr)) (fp : List Addr), SX (X.blk s H scope (compEnvC scope cl C X.env) fp) kx false [] M3 κ kel)
    (he : ∀ (s : Shared) (H : Hp) (C : Addr) (cl : List (Str × Addr)) (fp : List Addr), SX (X.blk s H scope (compEnvC scope cl C X.env) fp) vx false [] M4 κ vel)
    (hL : ∀ j, j ∈ L → j ∈ own'.map (·.2) := by decide) (hk : ∀ j, j ∈ own'.map (·.2) → κ[j]? = some false := by decide) (hB : ∀ j, j ∈ B → j ∉ M2 ∧ j ∉ M3 ∧ j ∉ M4 ∧ j ∉ own'.map (·.2) := by decide) (hBk : ∀ j, j ∈ B → κ[j]? = some true := by decide) (hs : ∀ x, foldedSetIterable iter X.env x = pure x := by intro _; rfl) :
    SX X (.DictComp kx vx [⟨tge, iter, ifs, 0⟩] scope pos) true [] (M ++ (M2 ++ (M3 ++ M4))) κ (eDComp (own'.map (·.2)) src tg test kel vel) :=
  PE.weak (pe_dc hc hN hi ok hg ht hke he hs) (dc_of (fun _ _ _ h => h) (fun _ _ _ _ h => h) (fun _ _ _ h => h) (fun _ _ _ h => h) (fun _ _ _ h => h) hL hk hB hBk)
end
end Tw

/-! ### sorted of a tuple -/
namespace St
open PySem PySem.Calls PyProof.Rows PySem.W
section
variable {prog : Program} {w : World} {A : Around} {E : Value → Shared → Prop} {s : Shared}
theorem collect_tup {l : Addr} {vs : List Value} {Q : List Value → Shared → Prop} (hl : s.heap.IsTuple l vs.toArray)
    (h : Q vs { s with heap := (s.heap.push (seqObj "list" #[] 0)).update s.heap.objs.size (Obj.mapSeq (· ++ vs.toArray)) }) (hsz : vs.length ≤ sizeLine := by size_fits) :
    wpAny (model prog w) A (collect (.ref l)) Q E s := by
  obtain ⟨o, ho, hc, n, hd⟩ := id hl
  unfold collect
  refine wpAny_bind (wpAny_runValue (codeAny_builtin entry_proto_collect' ?_))
  show wpAny _ _ (do again (.builtin "list.__iadd__" ⟨[← newList [], .ref l], []⟩)) _ _ s
  refine wpAny_bind (wpAny_newList (wpAny_pure ⟨Code.quiet_builtin _ (by decide +kernel), codeAny_builtin entry_list_iadd' ?_⟩))
  show wpAny _ _ (Builtin.List.listExtendWith (.ref s.heap.objs.size) (.ref l) (.ref s.heap.objs.size)) _ _ { s with heap := s.heap.push (seqObj "list" #[] 0) }
  unfold Builtin.List.listExtendWith
  have ho' : (s.heap.push (seqObj "list" #[] 0)).get? l = some o := Heap.get?_push_of_some _ ho
  refine wpAny_bind (wpAny_typeOf (T := "tuple") ⟨o, ho', hc⟩ ?_)
  have ht : (Value.type "tuple" == Value.type "tuple") = true := by rfl
  rw [if_pos (by rw [ht]; simp)]
  refine wpAny_bind (listItems_at ho' hd ?_)
  refine wpAny_bind (listItems_at (xs := #[]) (n := 0) (Heap.get?_push_size _ rfl) rfl ?_)
  rw [if_neg (by simp)]
  refine wpAny_bind (listUpdate_at (xs := #[]) (n := 0) (Heap.get?_push_size _ rfl) rfl ?_ (Nat.zero_le _) (by show (#[] ++ vs.toArray).size ≤ sizeLine + 1; simp only [Array.size_append, List.size_toArray, List.length_nil]; omega))
  refine wpAny_pure ?_
  show wpAny (model prog w) A (do
      let o ← load s.heap.objs.size
      match o.data with
      | .seq xs _ => pure xs.toList
      | _ => unsupported "internal:collect") Q E { s with heap := (s.heap.push (seqObj "list" #[] 0)).update s.heap.objs.size (Obj.mapSeq (· ++ vs.toArray)) }
  refine wpAny_bind (wpAny_load (get?_update_seq (Heap.get?_push_size _ rfl) _) ?_)
  show wpAny _ _ (pure ((#[] : Array Value) ++ vs.toArray).toList) Q E _
  rw [show ((#[] : Array Value) ++ vs.toArray).toList = vs by simp]
  exact wpAny_pure h
theorem sorted_of_sort {l : Addr} {vs : List Value} {Q : Value → Shared → Prop} (hl : s.heap.IsTuple l vs.toArray) (hL : vs.length ≤ sizeLine)
    (body : ∀ E' : Value → Shared → Prop, wpAny (model prog w) A.in1.in1 (Builtin.«list.sort» ⟨[.ref (s.heap.objs.size + 1)], []⟩) (fun f s' => f = .done (.ret .none) ∧ Q (.ref (s.heap.objs.size + 1)) s') E' { s with heap := copyHeap s.heap vs }) :
    wpAny (model prog w) A (call (.builtin "sorted") [.ref l] []) Q E s := by
  refine call_function_entry_kw kind_sorted plain_sorted entry_sorted (args_sorted1 _) ?_
  unfold Builtin.«sorted»
  refine wpAny_bind (m := checkCount "sorted" 1 1 _) (wpAny_pure ?_)
  refine wpAny_bind (collect_tup hl ?_ hL)
  refine wpAny_bind (wpAny_newList ?_ hL)
  have hsz : ((s.heap.push (seqObj "list" #[] 0)).update s.heap.objs.size (Obj.mapSeq (· ++ vs.toArray))).objs.size = s.heap.objs.size + 1 := by
    rw [Heap.size_update, size_push']
  show wpAny _ _ _ _ _ { s with heap := copyHeap s.heap vs }
  rw [hsz]
  refine wpAny_bind (wpAny_holding (wpAny_call_entry_kw slot_list_sort ⟨_, copyHeap_at s.heap vs, rfl⟩ entry_list_sort ?body (args_list_sort _)))
  case body =>
    show wpAny (model prog w) A.in1.in1 (Builtin.«list.sort» ⟨[.ref (s.heap.objs.size + 1)], []⟩) _ _ _
    refine wpAny_mono (body _) (fun f s' hf => ?_) fun _ _ e => e
    obtain ⟨rfl, hq⟩ := hf
    exact ⟨_, rfl, wpAny_pure ⟨_, rfl, hq⟩⟩
variable {β : Type} {R : Value → β → Prop} {vs : List Value} {bs : List β} {enc : β → PyData}
theorem sorted_data {l : Addr} {Q : Value → Shared → Prop} (hl : s.heap.IsTuple l vs.toArray) (e : EachIs R vs bs) (er : EachIs (fun v b => ∃ as, Reads s.heap v (enc b) as) vs bs) (hal : AllAlike (bs.map enc)) (hk : Sortable (bs.map enc)) (hL : bs.length ≤ sizeLine)
    (hu : ∀ b, b ∈ bs → A.units + 2 + (enc b).depth < cLine) (h : ∀ out, out.length = bs.length → EachIs R out (bs.mergeSort (dataLe false enc)) → Q (.ref (s.heap.objs.size + 1)) { s with heap := sortedAll s.heap vs (List.toArray out) }) :
    wpAny (model prog w) A (call (.builtin "sorted") [.ref l]) Q E s := by
  have er' : EachIs (fun v b => ∃ as, Reads (sortingHeap (copyHeap s.heap vs) (s.heap.objs.size + 1) vs) v (enc b) as) vs bs := er.mono fun _ _ ⟨as, r⟩ => ⟨as, PyProof.Rows.Reads.keeps (fun _ _ => sorting_copy_old) r⟩
  have hL' : vs.length ≤ sizeLine := by rw [e.length]; exact hL
  have S := SortsAt.data (prog := prog) (w := w) (A := A.in1.in1) (s := { s with heap := sortingHeap (copyHeap s.heap vs) (s.heap.objs.size + 1) vs }) (each_map (R := fun v d => ∃ as, Reads (sortingHeap (copyHeap s.heap vs) (s.heap.objs.size + 1) vs) v d as) enc er') hal hk (bound_map hu)
  refine sorted_of_sort hl hL' fun _ => list_sort_vals (s := { s with heap := copyHeap s.heap vs }) (copyHeap_at s.heap vs) S hL' ⟨rfl, ?_⟩
  exact h _ (by rw [sortVals_length false rfl]; exact e.length) (sortVals_data false e er' hal)
end
end St
namespace Tw
open PySem PySem.Spec PyProof.Rows L2
def rSortT (K : PySem.W.Frag) : List V → Hp → VK → Prop := fun xs H Q => ∃ (a : Addr) (bs : List (V × PyData)), xs = [.ref a] ∧ SqT K H a (bs.map (·.1)) ∧ (∀ b ∈ bs, Dp K H b.1 b.2) ∧ PySem.W.AllAlike (bs.map (·.2)) ∧ PySem.W.Sortable (bs.map (·.2)) ∧ (∀ b ∈ bs, b.2.depth ≤ 60) ∧
  ∀ p, H p = none → Q (.ref p) (upd H p (.lst ((bs.mergeSort pLe).map (·.1))))
section
variable {X : Cx} {K : PySem.W.Frag}
theorem cr_sortT (hu : X.A.units + 65 < cLine) : CallR X (.builtin "sorted") (rSortT X.K) := by
  intro pins s σ H vs us Q I r h
  obtain ⟨a, bs, rfl, hs, hd, hal, hk, hdp, q⟩ := h
  obtain ⟨its, rv, hl, hz⟩ := I.tuple hs
  rw [Vals.ref1 r]
  obtain ⟨e1, e2⟩ := each_of I rv hd
  rw [List.length_map] at hz
  refine St.sorted_data (enc := fun p : V × PyData => p.2) (show s.heap.IsTuple a its.toArray from hl) e1 e2 hal hk hz (fun b hb => ?_) fun out ho eo => ?_
  · have := hdp b hb
    show X.A.units + 2 + b.2.depth < cLine
    omega
  · obtain ⟨ep, he'⟩ := PyProof.Rows.sortedAll_at s.heap its out.toArray
    have hv := vals_each eo
    have hlen : ((bs.mergeSort pLe).map (·.1)).length ≤ sizeLine := by
      rw [List.length_map, List.length_mergeSort]
      exact hz
    exact ⟨.ref _, upd H (s.heap.objs.size + 1) (.lst ((bs.mergeSort pLe).map (·.1))), I.laid (t' := s.toks) (fun _ _ => PyProof.Rows.sortedAll_old) (Nat.le_succ _) ⟨hlen, out, ep, hv, he'⟩, rfl, q _ (I.hok.fresh (Nat.le_succ _))⟩
theorem call_sortT (hu : X.A.units + 65 < cLine) : CallR X (.builtin "sorted") (rSortT X.K) := cr_sortT hu
open Classical in
/-- sorted of a tuple -/
noncomputable def gSortT : List T → Option T
  | [.tup ts] => if ts.all okT = true ∧ PySem.W.AllAlike (toDs ts) ∧ PySem.W.Sortable (toDs ts) then some (.lst (ts.mergeSort (PySem.W.dataLe false toD))) else none
  | _ => none
theorem fn_sortT : FnT K (rSortT K) true gSortT := by
  intro N G κ σ H γ B ts tz xs S r e Q q
  unfold gSortT at e
  split at e
  · rename_i us
    split at e <;> cases e
    rename_i hg
    obtain ⟨g1, g2, g3⟩ := hg
    obtain ⟨v, rfl, r1⟩ := r.one
    have r1 := r1.tupRep S
    unfold Rep at r1
    obtain ⟨a, vs, rfl, h1, r2⟩ := r1
    have hl := r2.length
    have z1 : (vs.zip (us.map toD)).map (·.1) = vs := List.map_fst_zip (by rw [List.length_map]; omega)
    have z2 : (vs.zip (us.map toD)).map (·.2) = toDs us := by rw [toDs_map]; exact List.map_snd_zip (by rw [List.length_map]; omega)
    have hp := reps_pairs S.le r2 g1
    refine ⟨a, vs.zip (us.map toD), rfl, ?_, fun b hb => (hp b hb).1, by rw [z2]; exact g2, by rw [z2]; exact g3, fun b hb => (hp b hb).2, fun p hn => ?_⟩
    · rw [z1]
      exact Same.tup S.le h1
    · have em : ∀ (ps : List (V × T)), ((ps.map fun p => (p.1, toD p.2)).mergeSort pLe).map (·.1) = (ps.mergeSort fun x y => PySem.W.dataLe false toD x.2 y.2).map (·.1) := by
        intro ps
        have : (ps.map fun p => (p.1, toD p.2)).mergeSort pLe = (ps.mergeSort fun x y => PySem.W.dataLe false toD x.2 y.2).map fun p => (p.1, toD p.2) := by
          symm
          exact List.map_mergeSort fun _ _ _ _ => rfl
        rw [this, List.map_map]
        rfl
      have e2 : vs.zip (us.map toD) = (vs.zip us).map fun p => (p.1, toD p.2) := by
        rw [List.zip_map_right]
        rfl
      have e3 : (vs.zip us).map (·.2) = us := List.map_snd_zip (by omega)
      have e4 : us.mergeSort (PySem.W.dataLe false toD) = ((vs.zip us).mergeSort fun x y => PySem.W.dataLe false toD x.2 y.2).map (·.2) := by
        conv => lhs; rw [← e3]
        symm
        exact List.map_mergeSort fun _ _ _ _ => rfl
      have rr : Reps K G (us.mergeSort (PySem.W.dataLe false toD)) (((vs.zip (us.map toD)).mergeSort pLe).map (·.1)) := by
        rw [e2, em, e4]
        refine reps_of_pairs fun p hp => ?_
        exact pairs_rep r2 p ((List.mergeSort_perm _ _).mem_iff.mp hp)
      obtain ⟨S', f⟩ := S.listed hn rr
      exact q _ G _ (Same.refl _) S' (.new f)
  · cases e
end
/-! ### d[k] -/
def gDix : T → T → Option T
  | .dct ks vs, t => (toKey t).bind fun k => ((ks.zip vs).find? fun p => decide (toKey p.1 = some k)).map (·.2)
  | _, _ => none
theorem toKey_of {k : Key} : toKey (tK k) = some k := by cases k <;> rfl
section
variable {X : Cx} {K : PySem.W.Frag} {G : Hp} {κ : List Bool} {B1 B2 M1 M2 : List Nat} {a b : Expr} {f1 f2 : Ex} {pos apos cpos : Pos}
theorem dget_of {k : Key} {t : T} : ∀ {kvs : List (Key × V)} {vs : List T}, Reps K G vs (kvs.map (·.2)) → (((kvs.map fun p => tK p.1).zip vs).find? fun p => decide (toKey p.1 = some k)).map (·.2) = some t → ∃ v, valV kvs k = some v ∧ Rep K G t v
  | [], vs, r, e => by
    rw [List.map_nil, List.zip_nil_left] at e
    cases e
  | (k0, v0) :: kvs, [], r, e => by
    rw [List.zip_nil_right] at e
    cases e
  | (k0, v0) :: kvs, t0 :: vs, r, e => by
    unfold Reps at r
    obtain ⟨v1, r1, e1, h1, h2⟩ := r
    cases e1
    rw [List.map_cons, List.zip_cons_cons, List.find?_cons] at e
    by_cases h : k0 = k
    · subst h
      dsimp only at e
      rw [toKey_of, decide_eq_true rfl] at e
      cases e
      exact ⟨v0, valV_pos rfl, h1⟩
    · dsimp only at e
      rw [toKey_of, decide_eq_false (fun z => h (Option.some.inj z))] at e
      obtain ⟨v, g1, g2⟩ := dget_of h2 e
      exact ⟨v, by rw [valV_neg h]; exact g1, g2⟩
theorem sx_dget (hu : X.A.units + 65 < cLine) (ha : SX X a false B1 M1 κ f1) (hb : SX X b false B2 M2 κ f2) (hs : NoSl b := by exact fun _ _ => rfl) (hd : ∀ i, i ∈ B1 → i ∉ M2 := by decide) :
    SX X (.Subscript a b pos) false [] (M1 ++ M2) κ (eBin gDix f1 f2) := PE.weak (pe_dget (by omega) ha hb hs) fun σ H Q ⟨N, G, γ, r, γ', S, e, q⟩ => by
  unfold eBin at e
  obtain ⟨⟨t1, γ1⟩, e1, e⟩ := Option.bind_eq_some_iff.mp e
  obtain ⟨⟨t2, γ2⟩, e2, e⟩ := Option.bind_eq_some_iff.mp e
  obtain ⟨t3, e3, e⟩ := Option.map_eq_some_iff.mp e
  cases e
  refine ⟨N, G, γ, t1, γ1, S, e1, fun v1 G1 H1 s1 S1 k1 r1 => ⟨N, G1, γ1, t2, γ2, S1, e2, fun v2 G2 H2 s2 S2 k2 r2 => ?_⟩⟩
  have r1' : Rdy X.K κ G2 σ γ2 B1 t1 v1 := r1.rdy.mono s2 (fun i hi => k2 i (hd i hi)) (fun _ h => h)
  dsimp only at e3
  unfold gDix at e3
  split at e3
  case h_2 => cases e3
  rename_i ks vs t
  obtain ⟨k, ek, e3⟩ := Option.bind_eq_some_iff.mp e3
  obtain ⟨a, o, rfl, ho, h⟩ := r1'.dict S2
  have r2' := r2.rdy
  rw [toKey_tK ek] at r2'
  have ev : v2 = kV k := by
    cases k with
    | inl i => exact r2'.int S2
    | inr x => exact r2'.str S2
  unfold Ho at h
  rcases h with ⟨kvs, rfl, rfl, hr⟩ | ⟨kvs, rfl, rfl, hr⟩
  · obtain ⟨v, g1, g2⟩ := dget_of hr e3
    refine ⟨a, v, rfl, ?_, q v G2 H2 (s1.trans s2) S2 (k1.trans k2) (.old g2)⟩
    rw [ev, ← g1]
    exact DGet.k ho
  · exfalso
    obtain ⟨p, hp, _⟩ := Option.map_eq_some_iff.mp e3
    have h1 := List.find?_some hp
    have h2 := List.mem_of_find?_eq_some hp
    have h3 := (List.of_mem_zip (a := p.1) (b := p.2) h2).1
    obtain ⟨z, _, hz⟩ := List.mem_map.mp h3
    rw [← hz] at h1
    simp [tKs, toKey] at h1
/-! ### l.index(x) -/
def gIndex : T → T → Option T
  | .lst ts, t => if okT t && okT (.lst ts) then (ts.findIdx? fun z => eqT z t).map fun j => .int (j : Nat) else none
  | _, _ => none
theorem sx_index (hu : X.A.units + 65 < cLine) (ha : SX X a false B1 M1 κ f1) (hb : SX X b false B2 M2 κ f2) (hd : ∀ i, i ∈ B1 → i ∉ M2 := by decide)
    (hbase : attributeBase a "index" X.env (eval a X.env) = eval a X.env := by rfl)
    (hfew : ((backTo cpos (starEach [b] X.env)).all (fun x => !x.1) && (backToKw cpos (keywordEach [] X.env)).all (fun x => x.1.isSome)
      && decide ([b].length + ([] : List Keyword).length + (if ([] : List Keyword).isEmpty then 0 else 1) < 30)) = true := by rfl)
    (hline : (apos.endLine == cpos.line) = true := by rfl) (hs : starEach [b] X.env = (false, eval b X.env) :: starEach [] X.env := by rfl) (hplain : (backTo cpos (starEach [] X.env)).any (·.1) = false := by rfl) :
    SX X (.Call (.Attribute a "index" apos) [b] [] cpos) false [] (M1 ++ M2) κ (eBin gIndex f1 f2) :=
  PE.weak (pe_bm (T := "list") (id := "list.index") PySem.F.plainAttrs_list PySem.F.slot_list_index PySem.F.type_list_index (mt_indexD hu) ha (pa_cons hb pa_nil hs) hbase hfew hline hs hplain) fun σ H Q ⟨N, G, γ, r, γ', S, e, q⟩ => by
  unfold eBin at e
  obtain ⟨⟨t1, γ1⟩, e1, e⟩ := Option.bind_eq_some_iff.mp e
  obtain ⟨⟨t2, γ2⟩, e2, e⟩ := Option.bind_eq_some_iff.mp e
  obtain ⟨t3, e3, e⟩ := Option.map_eq_some_iff.mp e
  cases e
  dsimp only at e3
  unfold gIndex at e3
  split at e3
  case h_2 => cases e3
  rename_i ts t
  split at e3
  case isFalse => cases e3
  rename_i hok
  rw [Bool.and_eq_true] at hok
  obtain ⟨j, ej, e3⟩ := Option.map_eq_some_iff.mp e3
  cases e3
  refine ⟨N, G, γ, _, γ1, S, e1, fun v1 G1 H1 s1 S1 k1 r1 => ?_⟩
  obtain ⟨a, vs, rfl, h1, h2⟩ := r1.rdy.list S1
  refine ⟨tyL (t := .lst ts) ⟨vs, rfl, h2⟩ h1 rfl, N, G1, γ1, _, γ2, S1, e2, fun v2 G2 H2 s2 S2 k2 r2 => ?_⟩
  have r1' : Rdy X.K κ G2 σ γ2 B1 (.lst ts) (.ref a) := r1.rdy.mono s2 (fun i hi => k2 i (hd i hi)) (fun _ h => h)
  obtain ⟨d1, z1⟩ := r1'.dp S2 hok.2
  obtain ⟨d2, z2⟩ := r2.rdy.dp S2 hok.1
  obtain ⟨hj, hp, hn⟩ := List.findIdx?_eq_some_iff_getElem.mp ej
  refine ⟨a, v2, toD t2, toDs ts, j, toD ts[j], rfl, rfl, d1, d2, z1, z2, ?_, hp, fun m z' hm hz => ?_, q _ G2 H2 (s1.trans s2) S2 (k1.trans k2) (.old .int)⟩
  · rw [toDs_map, List.getElem?_map, List.getElem?_eq_getElem hj]
    rfl
  · rw [toDs_map, List.getElem?_map, List.getElem?_eq_getElem (by omega)] at hz
    cases hz
    have := hn m hm
    rw [Bool.not_eq_true] at this
    exact this
end
end Tw

namespace Tw
open PySem PySem.Spec PyProof.Rows L2
/-! k in d; {constants} -/
def keyIn (ks : List T) (k : Key) : Bool := ks.any fun z => decide (toKey z = some k)
def gDin : T → T → Option T
  | t, .dct ks _ => if ks.any (fun z => (toKey z).isSome) then (toKey t).map fun k => .bl (keyIn ks k) else none
  | _, _ => none
def gDnin : T → T → Option T
  | t, .dct ks _ => if ks.any (fun z => (toKey z).isSome) then (toKey t).map fun k => .bl (!keyIn ks k) else none
  | _, _ => none
theorem keyIn_of {k : Key} : ∀ (kvs : List (Key × V)), (valV kvs k).isSome = keyIn (kvs.map fun p => tK p.1) k
  | [] => rfl
  | (k0, v0) :: kvs => by
    have ih := keyIn_of (k := k) kvs
    unfold keyIn at ih ⊢
    rw [List.map_cons, List.any_cons, ← ih]
    dsimp only
    rw [toKey_of]
    by_cases h : k0 = k
    · subst h
      rw [valV_pos rfl, decide_eq_true rfl]
      rfl
    · rw [valV_neg h, decide_eq_false (fun z => h (Option.some.inj z))]
      rfl
section
variable {X : Cx} {K : PySem.W.Frag} {G : Hp} {κ : List Bool} {σ : L2.St} {H : Hp} {γ : En} {pos : Pos}
theorem din_of {N : Nt} {B B' : List Nat} {t : T} {ks vs : List T} {x y : V} {k : Key} (S : Sta K N G κ σ H γ) (rx : Rdy K κ G σ γ B t x) (ry : Rdy K κ G σ γ B' (.dct ks vs) y) (hk : toKey t = some k) (hs : ks.any (fun z => (toKey z).isSome) = true) :
    ∃ a o, y = .ref a ∧ DGet H a x o ∧ o.isSome = keyIn ks k := by
  obtain ⟨a, o, rfl, ho, h⟩ := ry.dict S
  rw [toKey_tK hk] at rx
  have ev : x = kV k := by
    cases k with
    | inl i => exact rx.int S
    | inr x => exact rx.str S
  unfold Ho at h
  rcases h with ⟨kvs, rfl, rfl, hr⟩ | ⟨kvs, rfl, rfl, hr⟩
  · exact ⟨a, _, rfl, by rw [ev]; exact DGet.k ho, keyIn_of kvs⟩
  · exfalso
    rw [List.any_map, List.any_eq_true] at hs
    obtain ⟨p, _, hp⟩ := hs
    simp [tKs, toKey] at hp
theorem o2_din : Op2 K (rDIn false) false gDin := by
  intro N G κ σ H γ B B' tx ty tz x y S rx ry e Q q
  unfold gDin at e
  split at e
  case h_2 => cases e
  rename_i t ks vs
  split at e
  case isFalse => cases e
  rename_i hs
  obtain ⟨k, hk, rfl⟩ := Option.map_eq_some_iff.mp e
  obtain ⟨a, o, rfl, g, e2⟩ := din_of S rx ry hk hs
  refine ⟨a, o, rfl, g, ?_⟩
  rw [e2, Bool.false_xor]
  exact q _ G H (Same.refl _) S (.old .bl)
theorem o2_dnin : Op2 K (rDIn true) false gDnin := by
  intro N G κ σ H γ B B' tx ty tz x y S rx ry e Q q
  unfold gDnin at e
  split at e
  case h_2 => cases e
  rename_i t ks vs
  split at e
  case isFalse => cases e
  rename_i hs
  obtain ⟨k, hk, rfl⟩ := Option.map_eq_some_iff.mp e
  obtain ⟨a, o, rfl, g, e2⟩ := din_of S rx ry hk hs
  refine ⟨a, o, rfl, g, ?_⟩
  rw [e2, Bool.true_xor]
  exact q _ G H (Same.refl _) S (.old .bl)
/-- a display of constants -/
def cV : Key → V
  | .inl i => .int i
  | .inr x => .str x
def eDisp (l : List (Key × Key)) : Ex := fun γ => some (.dct (l.map fun p => tK p.1) (l.map fun p => tK p.2), γ)
def trC (l : List (Key × Key)) : List (TE × TE) := l.map fun p => (tC (cV p.1), tC (cV p.2))
theorem tPairs_c (l : List (Key × Key)) (Q : List (V × V) → Hp → Prop) (h : Q (l.map fun p => (cV p.1, cV p.2)) H) : tPairs (trC l) σ H Q := by
  induction l generalizing Q with
  | nil => exact h
  | cons p l ih => exact ih _ h
theorem merge_nd : ∀ (more kvs : List (Key × V)), (kvs ++ more).map (·.1) |>.Nodup → mergeK kvs more = kvs ++ more
  | [], kvs, _ => by
    rw [List.append_nil]; rfl
  | p :: r, kvs, h => by
    show mergeK (putK kvs p.1 p.2) r = _
    have e : putK kvs p.1 p.2 = kvs ++ [p] := by
      unfold putK
      rw [if_neg]
      intro z
      rw [List.any_eq_true] at z
      obtain ⟨q, hq, e⟩ := z
      rw [List.map_append, List.map_cons, List.nodup_append] at h
      exact h.2.2 q.1 (List.mem_map_of_mem hq) p.1 (List.mem_cons_self ..) (of_decide_eq_true e)
    rw [e, merge_nd r (kvs ++ [p]) (by rw [List.append_assoc]; exact h), List.append_assoc]
    rfl
theorem reps_c : ∀ (l : List Key), Reps K G (l.map tK) (l.map cV)
  | [] => rfl
  | .inl i :: l => by
    rw [List.map_cons, List.map_cons]
    exact ⟨_, _, rfl, rfl, reps_c l⟩
  | .inr i :: l => by
    rw [List.map_cons, List.map_cons]
    exact ⟨_, _, rfl, rfl, reps_c l⟩
theorem sx_disp {keys : List (Option Expr)} {values : List Expr} (l : List (Key × Key)) (h : PPs X pos keys values (trC l)) (hall : keys.all (·.isSome) = true) (hl : keys.length = values.length) (h0 : keys ≠ [])
    (h15 : keys.length ≤ 15) (hn : (l.map (·.1)).Nodup) (h15' : l.length ≤ 15) : SX X (.Dict keys values pos) true [] [] κ (eDisp l) :=
  PE.weak (pe_disp h hall hl h0 h15) fun σ H Q ⟨N, G, γ, r, γ', S, ef, q⟩ => by
  cases ef
  intro p hp
  refine tPairs_c l _ ⟨upd_same, l.map fun z => (z.1, cV z.2), ?_, by rw [List.length_map]; exact h15', ?_⟩
  · rw [List.map_map]
    refine List.map_congr_left fun z _ => ?_
    show (cV z.1, cV z.2) = (kV z.1, cV z.2)
    cases z.1 <;> rfl
  · rw [merge_nd _ _ (by rw [List.nil_append, List.map_map]; exact hn), List.nil_append, upd_upd]
    refine q _ G _ (Same.refl _) (S.laid hp) (Keeps.refl _ _) (.new (S.fre hp (.inl ⟨_, rfl, ?_, ?_⟩)))
    · rw [List.map_map]; rfl
    · rw [List.map_map]
      have := reps_c (K := X.K) (G := G) (l.map (·.2))
      rw [List.map_map, List.map_map] at this
      exact this
end
end Tw

namespace Tw
open PySem PySem.Spec PyProof.Rows L2
section
variable {X : Cx}
/-- name = {..} on one line, the name a local -/
theorem ps_setDc {i : Nat} {y : Str} {py : Pos} {kx vx tg iter : Expr} {ifs : List Expr} {scope : Scope} {own : List (Str × Nat)} {pos spos : Pos} {wi : TI} {g : TG} {tt : TT} {tk tv : TE} (hc : X.calm = true) (hN : X.N.Nodup) (hy : X.N[i]? = some y) (hyl : X.env.scope.names.lookup y = some .local)
    (hsw : swapsWith (.DictComp kx vx [⟨tg, iter, ifs, 0⟩] scope pos) (some (.Name y py)) spos.line X.env = pure true) (hi : PI X tg iter wi) (ok : BlkOk X.N X.env.scope scope own)
    (hg : ∀ (s : Shared) (H : Hp) (C : Addr) (cl : List (Str × Addr)) (fp : List Addr), PG (X.blk s H scope (compEnvC scope cl C X.env) fp) tg g) (ht : ∀ (s : Shared) (H : Hp) (C : Addr) (cl : List (Str × Addr)) (fp : List Addr), PTs (X.blk s H scope (compEnvC scope cl C X.env) fp) ifs tt)
    (hk : ∀ (s : Shared) (H : Hp) (C : Addr) (cl : List (Str × Addr)) (fp : List Addr), PE (X.blk s H scope (compEnvC scope cl C X.env) fp) kx tk)
    (he : ∀ (s : Shared) (H : Hp) (C : Addr) (cl : List (Str × Addr)) (fp : List Addr), PE (X.blk s H scope (compEnvC scope cl C X.env) fp) vx tv) (hs : ∀ x, foldedSetIterable iter X.env x = pure x := by intro _; rfl) :
    PS X (.Assign [.Name y py] (.DictComp kx vx [⟨tg, iter, ifs, 0⟩] scope pos) spos) (tAsg (tDc wi g tt tk tv (own.map (·.2))) (gName i)) := by
  refine ⟨fun pins s σ H D I h => ?_⟩
  rw [exec_Assign_Name_used _ _ _ _ hsw]
  refine wpAny_bind (wpAny_standAt (wpAny_bind ?_))
  show wpAny _ X.A (do let _ ← comprehension (.DictComp kx vx [⟨tg, iter, ifs, 0⟩] scope pos) scope X.env (firstIterPos [⟨tg, iter, ifs, 0⟩] pos) newDict false (eval iter X.env) (some (assign (.Name y py) X.env))) _ _ s
  have h : tDc wi g tt tk tv (own.map (·.2)) σ H (fun x H1 => gName i x σ H1 D.nx) := h
  refine wpAny_bind (thn (dc_core (Qf := fun _ s' => SP X pins D .next s') hc hN I hi ok hg ht hk he hs h fun L C s' m H' I' q hn f => ?_) fun _ s' hq => wpAny_pure (wpAny_pure hq))
  show wpAny _ _ (assign (.Name y py) X.env (.ref L)) _ _ _
  refine wpAny_assign_Name (store_ok2 (v := V.ref L) I' hN hy (.inl hyl) rfl (fun s2 I2 ⟨a, sb, ha⟩ => ?_) (.inr hyl))
  obtain ⟨f0, f1, f2, f3, f4, f5⟩ := f
  have haC : C ≠ a := by
    rcases ha with z | z
    · rw [z]; exact f1
    · exact fun e => f4 y a z e.symm
  refine ⟨m, hn.sameBut sb haC, fun h3 sb3 => ?_⟩
  exact ⟨_, H', I2.turned (t' := s2.toks) (fun b o hb e => (sb3.2 b hb).trans e) f0 f1 f3 f4 f5, q⟩
theorem sw_trueD {kx vx : Expr} {gs : List Comprehension} {scope : Scope} {pos py : Pos} {y : Str} {l : Nat} {env : Env} (hk : env.scope.kind = .function) (hy : env.scope.names.lookup y = some .local) (hl : (py.line == pos.line) = true)
    (ha : (scope.names.any fun (n, k) => n == y && (k == .local || k == .cell)) = false) : swapsWith (.DictComp kx vx gs scope pos) (some (.Name y py)) l env = pure true := by
  have ky : env.kindOf y = some .local := hy
  have hb : env.blockKind = .function := by unfold Env.blockKind; rw [hk]; rfl
  unfold swapsWith
  simp only [hb, ky, ha, Expr.pos, hl]
  rfl
variable {κ κb : List Bool} {rk : Bool} {pl L : List Nat} {B M M2 M3 M4 : List Nat} {pos : Pos}
theorem ss_setDc (i : Nat) {y : Str} {py : Pos} {kx vx tge iter : Expr} {ifs : List Expr} {scope : Scope} {own' : List (Str × Nat)} {tg : T → En → Option En} {test : Tx} {kel vel : Ex} {src : Ix} {spos : Pos} (k : Bool) (hc : X.calm = true) (hN : X.N.Nodup) (hi : SI X tge iter B M κ src) (ok : BlkOk X.N X.env.scope scope own')
    (hg : ∀ (s : Shared) (H : Hp) (C : Addr) (cl : List (Str × Addr)) (fp : List Addr), SG (X.blk s H scope (compEnvC scope cl C X.env) fp) tge L κ κ tg) (ht : ∀ (s : Shared) (H : Hp) (C : Addr) (cl : List (Str × Addr)) (fp : List Addr), STs (X.blk s H scope (compEnvC scope cl C X.env) fp) ifs M2 κ test)
    (hke : ∀ (s : Shared) (H : Hp) (C : Addr) (cl : List (Str × Addr)) (fp : List Addr), SX (X.blk s H scope (compEnvC scope cl C X.env) fp) kx false [] M3 κ kel)
    (he : ∀ (s : Shared) (H : Hp) (C : Addr) (cl : List (Str × Addr)) (fp : List Addr), SX (X.blk s H scope (compEnvC scope cl C X.env) fp) vx false [] M4 κ vel)
    (hsw : swapsWith (.DictComp kx vx [⟨tge, iter, ifs, 0⟩] scope pos) (some (.Name y py)) spos.line X.env = pure true) (hy : X.N[i]? = some y := by rfl) (hyl : X.env.scope.names.lookup y = some .local := by rfl) (hkl : i < κ.length := by decide) (hp : i ∉ pl := by decide)
    (hL : ∀ j, j ∈ L → j ∈ own'.map (·.2) := by decide) (hk : ∀ j, j ∈ own'.map (·.2) → κ[j]? = some false := by decide) (hB : ∀ j, j ∈ B → j ∉ M2 ∧ j ∉ M3 ∧ j ∉ M4 ∧ j ∉ own'.map (·.2) := by decide) (hBk : ∀ j, j ∈ B → κ[j]? = some true := by decide) (hs : ∀ x, foldedSetIterable iter X.env x = pure x := by intro _; rfl) :
    SS X (.Assign [.Name y py] (.DictComp kx vx [⟨tge, iter, ifs, 0⟩] scope pos) spos) κ (κ.set i k) κb rk pl (sAsg i (eDComp (own'.map (·.2)) src tg test kel vel)) :=
  PS.weak (ps_setDc hc hN hy hyl hsw hi ok hg ht hke he hs) fun D σ H ⟨N, G, γ, o, hp', S, ef, q⟩ => by
  unfold sAsg at ef
  obtain ⟨⟨t1, γ1⟩, e1, ef⟩ := Option.map_eq_some_iff.mp ef
  cases ef
  refine dc_of (M := M) (fun _ _ _ h => h) (fun _ _ _ _ h => h) (fun _ _ _ h => h) (fun _ _ _ h => h) (fun _ _ _ h => h) hL hk hB hBk σ H _ ⟨N, G, γ, t1, γ1, S, e1, fun v G1 H1 s1 S1 k1 r1 => ?_⟩
  cases k with
  | true => exact q _ H1 G1 s1 (S1.storeO (len_of S1 hkl) (hp' ▸ hp) r1.fre)
  | false =>
    obtain ⟨G2, s2, S2, rp⟩ := r1.fre.lasts S1
    exact q _ H1 G2 (s1.trans s2) (S2.store (len_of S2 hkl) (hp' ▸ hp) rp)
end
end Tw

/-! dicts that grow: {} and d[k] = v -/
namespace L2
open PySem PySem.Spec PyProof.Rows
section
variable {X : Cx} {pins : List (Addr × Obj)} {σ : L2.St} {H : Hp} {s : Shared} {a : Addr}
theorem Inv.retK (I : Inv X pins σ H s) (e : H a = some (.dT [])) : Inv X pins σ (upd H a (.dK [])) s := by
  obtain ⟨z, hd, xs, rel, dd⟩ := dt_of I.hok e
  cases rel
  obtain ⟨o, es, ep, h1, h2, h3, h4, _, _⟩ := dd
  have hes : es = #[] := by
    apply Array.ext'
    simpa using h4
  subst hes
  have := I.write (x := a) (e := a) (h' := s.heap) (t' := s.toks) (o := .dK []) (by rw [e]; exact True.intro) (.inl rfl) (fun b q hb z => z) ⟨o, h1⟩
    (dk_new (Nat.zero_le _) hd .nil ⟨o, #[], ep, h1, h2, h3, fun e he => by simp at he, .nil, List.nodup_nil⟩)
  exact this
theorem Inv.retT (I : Inv X pins σ H s) (e : H a = some (.dK [])) : Inv X pins σ (upd H a (.dT [])) s := by
  obtain ⟨z, hd, xs, rel, dd⟩ := dk_of I.hok e
  cases rel
  obtain ⟨o, es, ep, h1, h2, h3, _, h4, _⟩ := dd
  have hes : es = #[] := by
    apply Array.ext'
    generalize es.toList = l at h4
    cases h4
    rfl
  subst hes
  have := I.write (x := a) (e := a) (h' := s.heap) (t' := s.toks) (o := .dT []) (by rw [e]; exact True.intro) (.inl rfl) (fun b q hb z => z) ⟨o, h1⟩
    ⟨Nat.zero_le _, hd, [], .nil, o, #[], ep, h1, h2, h3, rfl, List.nodup_nil⟩
  exact this
/-- d[y] = v, where an empty dict may be of either kind -/
def DPutE (H : Hp) (a : Addr) (y v : V) (H' : Hp) : Prop := DPut H a y v H' ∨ (H a = some (.dT []) ∧ DPut (upd H a (.dK [])) a y v H') ∨ (H a = some (.dK []) ∧ DPut (upd H a (.dT [])) a y v H')
def DGetE (H : Hp) (a : Addr) (y : V) (b : Bool) : Prop := (∃ o, DGet H a y o ∧ o.isSome = b) ∨ (H a = some (.dT []) ∧ b = false ∧ DGet (upd H a (.dK [])) a y none) ∨ (H a = some (.dK []) ∧ b = false ∧ DGet (upd H a (.dT [])) a y none)
theorem upd_selfD {o : HO} (h : H a = some o) : upd H a o = H := by
  funext b
  unfold upd
  split
  · next e => rw [e]; exact h.symm
  · rfl
variable {A : Around} {E : Value → Shared → Prop} {y v : V} {u r : Value} {H' : Hp}
theorem d_setItemE {Q : Unit → Shared → Prop} (hu : A.units + 1 < cLine) (I : Inv X pins σ H s) (g : DPutE H a y v H') (ry : RelV y u) (rv : RelV v r) (h : ∀ s', Inv X pins σ H' s' → Q () s') :
    wpAny (model X.prog X.w) A (setItem (.ref a) u r) Q E s := by
  rcases g with g | ⟨e, g⟩ | ⟨e, g⟩
  · exact d_setItem hu I g ry rv h
  · exact d_setItem hu (I.retK e) g ry rv h
  · exact d_setItem hu (I.retT e) g ry rv h
def sDPutE (td ty tv : TE) : TS := fun D σ H => tv σ H fun v H1 => td σ H1 fun x H2 => ty σ H2 fun y H3 => ∃ a H4, x = .ref a ∧ DPutE H3 a y v H4 ∧ D.nx σ H4
end
theorem ps_dputE {X : Cx} {o i value : Expr} {pos pos' : Pos} {td ty tv : TE} (hu : X.A.units + 1 < cLine) (ho : PE X o td) (hi : PE X i ty) (hv : PE X value tv) (hs : swapsWith value (some (.Subscript o i pos')) pos.line X.env = pure false) :
    PS X (.Assign [.Subscript o i pos'] value pos) (sDPutE td ty tv) := by
  refine ⟨fun pins s σ H D I h => ?_⟩
  refine wpAny_Assign_Subscript (thn (hv.run pins s σ H _ I h) fun r s1 ⟨v, H1, I1, rv, q1⟩ => thn (ho.run pins s1 σ H1 _ I1 q1) fun u s2 ⟨x, H2, I2, rx, q2⟩ => thn (hi.run pins s2 σ H2 _ I2 q2) fun iv s3 ⟨y, H3, I3, ry, a, H4, ex, g, q3⟩ => ?_) hs
  subst ex
  obtain rfl : u = Value.ref a := rx
  exact d_setItemE hu I3 g ry rv fun s4 I4 => ⟨σ, H4, I4, q3⟩
def rDInE (b : Bool) : R2 := fun x y H Q => ∃ a o, y = .ref a ∧ DGetE H a x o ∧ Q (.bl (xor b o)) H
theorem op_dinE {X : Cx} (hu : X.A.units + 65 < cLine) : OpR X (compareOp .In) (rDInE false) := by
  intro pins s σ H x y v u Q I rx ry h
  obtain ⟨a, o, rfl, g, q⟩ := h
  obtain rfl : u = Value.ref a := ry
  rcases g with ⟨w, g, rfl⟩ | ⟨e, rfl, g⟩ | ⟨e, rfl, g⟩
  · exact d_in (by omega) I g rx fun s' I' => ⟨.bl w.isSome, H, I', rfl, by simpa using q⟩
  · exact d_in (by omega) (I.retK e) g rx fun s' I' => ⟨.bl false, H, by have := I'.retT upd_same; rw [upd_upd, upd_selfD e] at this; exact this, rfl, by simpa using q⟩
  · exact d_in (by omega) (I.retT e) g rx fun s' I' => ⟨.bl false, H, by have := I'.retK upd_same; rw [upd_upd, upd_selfD e] at this; exact this, rfl, by simpa using q⟩
theorem op_dninE {X : Cx} (hu : X.A.units + 65 < cLine) : OpR X (compareOp .NotIn) (rDInE true) := by
  intro pins s σ H x y v u Q I rx ry h
  obtain ⟨a, o, rfl, g, q⟩ := h
  obtain rfl : u = Value.ref a := ry
  rcases g with ⟨w, g, rfl⟩ | ⟨e, rfl, g⟩ | ⟨e, rfl, g⟩
  · exact d_notIn (by omega) I g rx fun s' I' => ⟨.bl (!w.isSome), H, I', rfl, by simpa using q⟩
  · exact d_notIn (by omega) (I.retK e) g rx fun s' I' => ⟨.bl true, H, by have := I'.retT upd_same; rw [upd_upd, upd_selfD e] at this; exact this, rfl, by simpa using q⟩
  · exact d_notIn (by omega) (I.retT e) g rx fun s' I' => ⟨.bl true, H, by have := I'.retK upd_same; rw [upd_upd, upd_selfD e] at this; exact this, rfl, by simpa using q⟩
end L2
namespace Tw
open PySem PySem.Spec PyProof.Rows L2
/-! trees -/
def isKK (k : Key) : T → Bool := fun z => decide (toKey z = some k)
def putT (ks vs : List T) (t v : T) (p : T → Bool) : T := if ks.any p = true then .dct ks ((ks.zip vs).map fun q => if p q.1 = true then v else q.2) else .dct (ks ++ [t]) (vs ++ [v])
def gPutD : T → T → T → Option T
  | .dct ks vs, t, v => if ks.length < sizeLine ∧ ks.all (fun z => (toKey z).isSome) = true then (toKey t).map fun k => putT ks vs t v (isKK k) else none
  | _, _, _ => none
def sSetD (i : Nat) (fv fi : Ex) : Fs := fun γ => (fv γ).bind fun p => match p.2[i]? with
  | some (some _) => (fi p.2).bind fun q => match q.2[i]? with
    | some (some d) => (gPutD d q.1 p.1).map fun d' => .nx (q.2.set i (some d'))
    | _ => none
  | _ => none
def eDNew : Ex := fun γ => some (.dct [] [], γ)
/-- k in d, also in an empty one -/
def gDinE : T → T → Option T
  | t, .dct ks _ => if ks.all (fun z => (toKey z).isSome) = true then (toKey t).map fun k => .bl (keyIn ks k) else none
  | _, _ => none
def gDninE : T → T → Option T
  | t, .dct ks _ => if ks.all (fun z => (toKey z).isSome) = true then (toKey t).map fun k => .bl (!keyIn ks k) else none
  | _, _ => none
section
variable {X : Cx} {K : PySem.W.Frag} {G G' H H' : Hp} {κ : List Bool} {B M M1 M2 : List Nat} {σ : L2.St} {γ : En}
variable {x : Str} {e b : Expr} {f1 f2 : Ex} {κb : List Bool} {rk : Bool} {pl : List Nat} {pos p pos' : Pos}
theorem reps_put {k : Key} {t : T} {v : V} (rt : Rep K G t v) : ∀ {kvs : List (Key × V)} {vs : List T}, Reps K G vs (kvs.map (·.2)) →
    Reps K G (((kvs.map fun q => tK q.1).zip vs).map fun q => if isKK k q.1 = true then t else q.2) ((kvs.map fun kv => if kv.1 = k then (kv.1, v) else kv).map (·.2))
  | [], vs, r => by
    rw [List.map_nil] at r
    show Reps K G (List.map _ (List.zip [] vs)) []
    rw [List.zip_nil_left]
    rfl
  | kv :: kvs, vs, r => by
    cases vs with
    | nil => cases r
    | cons u vs =>
      obtain ⟨w, r2, e, h1, h2⟩ := r
      cases e
      have ih := reps_put (k := k) rt h2
      refine ⟨_, _, rfl, ?_, ih⟩
      show Rep K G (if isKK k (tK kv.1) = true then t else u) (if kv.1 = k then (kv.1, v) else kv).2
      unfold isKK
      rw [toKey_of]
      by_cases c : kv.1 = k
      · rw [if_pos (by simp [c]), if_pos c]
        exact rt
      · rw [if_neg (by simp [c]), if_neg c]
        exact h1
theorem any_isKK {k : Key} (kvs : List (Key × V)) : (kvs.map fun q => tK q.1).any (isKK k) = kvs.any fun kv => decide (kv.1 = k) := by
  rw [List.any_map]
  congr 1
  funext kv
  show decide (toKey (tK kv.1) = some k) = _
  rw [toKey_of]
  simp
theorem ho_put {k : Key} {kvs : List (Key × V)} {vs : List T} {t : T} {v : V} (r : Reps K G vs (kvs.map (·.2))) (rt : Rep K G t v) :
    Ho K G (.dK (putK kvs k v)) (putT (kvs.map fun q => tK q.1) vs (tK k) t (isKK k)) := by
  unfold putT putK
  rw [any_isKK]
  by_cases c : (kvs.any fun kv => decide (kv.1 = k)) = true
  · rw [if_pos c, if_pos c]
    refine .inl ⟨_, rfl, ?_, reps_put rt r⟩
    rw [List.map_map]
    refine List.map_congr_left fun kv _ => ?_
    show tK kv.1 = tK (if kv.1 = k then (kv.1, v) else kv).1
    split <;> rfl
  · rw [if_neg c, if_neg c]
    refine .inl ⟨_, rfl, ?_, ?_⟩
    · rw [List.map_append]; rfl
    · rw [List.map_append]
      exact r.append ⟨v, [], rfl, rt, rfl⟩
theorem ss_setD (i : Nat) {tpos : Pos} (hu : X.A.units + 65 < cLine) (hv : SX X e false [] M1 κ f1) (hi : SX X b false [] M2 κ f2) (hk : κ[i]? = some true := by rfl)
    (hN : X.N[i]? = some x := by rfl) (hvis : Vis X.env.scope x := by first | exact Or.inl rfl | exact Or.inr (Or.inl rfl) | exact Or.inr (Or.inr rfl))
    (hd : (x == ("__debug__" : Str)) = false := by decide) (hcd : (x == ("__classdict__" : Str)) = false := by decide)
    (hs : swapsWith e (some (.Subscript (.Name x p) b tpos)) pos.line X.env = pure false := by rfl) :
    SS X (.Assign [.Subscript (.Name x p) b tpos] e pos) κ κ κb rk pl (sSetD i f1 f2) :=
  PS.weak (ps_dputE (by omega) (pe_var hN hvis hd hcd) hi hv hs) fun D σ H ⟨N, G, γ, o, hp', S, ef, q⟩ => by
  unfold sSetD at ef
  obtain ⟨⟨t1, γ1⟩, e1, ef⟩ := Option.bind_eq_some_iff.mp ef
  dsimp only at ef
  split at ef
  case h_2 => cases ef
  rename_i t0 h0
  obtain ⟨⟨t2, γ2⟩, e2, ef⟩ := Option.bind_eq_some_iff.mp ef
  dsimp only at ef
  split at ef
  case h_2 => cases ef
  rename_i d h2
  obtain ⟨d', e3, ef⟩ := Option.map_eq_some_iff.mp ef
  cases ef
  unfold gPutD at e3
  split at e3
  case h_2 => cases e3
  rename_i ks vs t v
  split at e3
  case isFalse => cases e3
  rename_i hz
  obtain ⟨k, ek, rfl⟩ := Option.map_eq_some_iff.mp e3
  refine ⟨N, G, γ, _, γ1, S, e1, fun v1 G1 H1 s1 S1 k1 r1 => ?_⟩
  obtain ⟨a, ob, w1, w2, w3, w4, w5⟩ := S1.own i t0 hk h0
  refine ⟨_, w1, N, G1, γ1, _, γ2, S1, e2, fun v2 G2 H2 s2 S2 k2 r2 => ?_⟩
  obtain ⟨a', ob', z1, z2, z3, z4, z5⟩ := S2.own i _ hk h2
  rw [w1] at z1
  cases z1
  have et := toKey_tK ek
  subst et
  have r2' := r2.rdy
  have ev : v2 = kV k := by
    cases k with
    | inl i => exact r2'.int S2
    | inr x => exact r2'.str S2
  subst ev
  have rt := r1.rdy.rep.mono s2
  rcases z4 with ⟨kvs, rfl, rfl, z4⟩ | ⟨kvs, rfl, rfl, z4⟩
  · have hl : kvs.length < sizeLine := by simpa using hz.1
    exact ⟨a, _, rfl, .inl (DPut.k z3 hl), q _ _ G2 (s1.trans s2) (S2.changed hk h2 w1 (ho_put z4 rt))⟩
  · cases kvs with
    | cons kv kvs => exact absurd hz.2 (by simp [tKs, toKey])
    | nil =>
      refine ⟨a, _, rfl, .inr (.inl ⟨z3, DPut.k (kvs := []) upd_same (by rw [PySem.sizeLine_eq]; decide)⟩), ?_⟩
      rw [upd_upd]
      exact q _ _ G2 (s1.trans s2) (S2.changed hk h2 w1 (ho_put (kvs := []) z4 rt))
theorem sx_dnew : SX X (.Dict [] [] pos) true [] [] κ eDNew := PE.weak pe_dnewK fun σ H Q ⟨N, G, γ, r, γ', S, ef, q⟩ => by
  cases ef
  intro p hp
  exact q _ G _ (Same.refl _) (S.laid hp) (Keeps.refl _ _) (.new (S.fre hp (.inl ⟨[], rfl, rfl, rfl⟩)))
theorem dinE_of {N : Nt} {B B' : List Nat} {t : T} {ks vs : List T} {x y : V} {k : Key} (S : Sta K N G κ σ H γ) (rx : Rdy K κ G σ γ B t x) (ry : Rdy K κ G σ γ B' (.dct ks vs) y) (hk : toKey t = some k) (hs : ks.all (fun z => (toKey z).isSome) = true) :
    ∃ a, y = .ref a ∧ DGetE H a x (keyIn ks k) := by
  obtain ⟨a, o, rfl, ho, h⟩ := ry.dict S
  rw [toKey_tK hk] at rx
  have ev : x = kV k := by
    cases k with
    | inl i => exact rx.int S
    | inr x => exact rx.str S
  subst ev
  unfold Ho at h
  rcases h with ⟨kvs, rfl, rfl, hr⟩ | ⟨kvs, rfl, rfl, hr⟩
  · exact ⟨a, rfl, .inl ⟨_, DGet.k ho, keyIn_of kvs⟩⟩
  · cases kvs with
    | cons kv kvs => exact absurd hs (by simp [tKs, toKey])
    | nil => exact ⟨a, rfl, .inr (.inl ⟨ho, rfl, DGet.k (kvs := []) upd_same⟩)⟩
theorem o2_dinE : Op2 K (rDInE false) false gDinE := by
  intro N G κ σ H γ B B' tx ty tz x y S rx ry e Q q
  unfold gDinE at e
  split at e
  case h_2 => cases e
  rename_i t ks vs
  split at e
  case isFalse => cases e
  rename_i hs
  obtain ⟨k, hk, rfl⟩ := Option.map_eq_some_iff.mp e
  obtain ⟨a, rfl, g⟩ := dinE_of S rx ry hk hs
  refine ⟨a, _, rfl, g, ?_⟩
  rw [Bool.false_xor]
  exact q _ G H (Same.refl _) S (.old .bl)
theorem o2_dninE : Op2 K (rDInE true) false gDninE := by
  intro N G κ σ H γ B B' tx ty tz x y S rx ry e Q q
  unfold gDninE at e
  split at e
  case h_2 => cases e
  rename_i t ks vs
  split at e
  case isFalse => cases e
  rename_i hs
  obtain ⟨k, hk, rfl⟩ := Option.map_eq_some_iff.mp e
  obtain ⟨a, rfl, g⟩ := dinE_of S rx ry hk hs
  refine ⟨a, _, rfl, g, ?_⟩
  rw [Bool.true_xor]
  exact q _ G H (Same.refl _) S (.old .bl)
end
end Tw

/-! sorted(set(ints)), of any length below the bound of sets: the order of the set's table is carried along -/
namespace L2
open PySem PySem.Spec PyProof.Rows
section
variable {P : Program} {w : World} {A : Around} {E : Value → Shared → Prop} {s : Shared}
/-- the ints met so far, in a set whose table is in order -/
abbrev MetR (w : World) (h : Heap) (S : Addr) (val : Nat → Int) (i : Nat) : Prop := SetR w h S (fun k => (firstMet val i).any (· == k)) (firstMet val i).length
theorem MetR.next {h : Heap} {S : Addr} {val : Nat → Int} {i : Nat}
    (r : SetR w h S (fun j => (firstMet val i).any (· == j) || decide (j = val i)) (if (firstMet val i).any (· == val i) = true then (firstMet val i).length else (firstMet val i).length + 1)) : MetR w h S val (i + 1) := by
  unfold MetR
  rw [firstMet_succ, step_length]
  refine SetR.congr r fun k => ?_
  rw [step_any]
theorem upd_loopR {R : Result → Shared → Prop} {I : Addr} {fp wr : List Addr} {G : Array GenState → Array GenState → Prop} {n : Nat} {Pv : Nat → Value → Prop} {St : Nat → Shared → Prop}
    (W : WalksS P w A.in1 I fp wr G n Pv St) (S : Addr) (hSf : S ∉ fp) (val : Nat → Int) (hval : ∀ i v, Pv i v → ∃ t, v = .int (val i) t) (hb : n + 1 < scanBound) :
    ∀ (k i : Nat) (s : Shared), n - i = k → i ≤ n → St i s → MetR w s.heap S val i →
      (∀ s', Moved (S :: wr) G s s' → MetR w s'.heap S val n → R (.ok (.ret .none)) s') →
      codeAny (model P w) A (.builtin "set.update.loop" ⟨[.ref S, .ref I], []⟩) R s := by
  have hSw : S ∉ wr := fun h => hSf (W.sub _ h)
  have hsub : ∀ b ∈ wr, b ∈ S :: wr := fun b hb => List.mem_cons_of_mem _ hb
  intro k
  induction k with
  | zero =>
    intro i s hk hi hst hS hR
    obtain rfl : i = n := by omega
    refine codeAny_builtin PyProof.Rows.F.entry_set_update_loop ?_
    rw [Around.under_plainId PyProof.Rows.F.plain_set_update_loop _]
    show wpAny _ A.in1 (pyNext (.ref I) >>= _) _ _ s
    refine wpAny_bind (W.done s _ _ hst fun s' hm => ?_)
    show wpAny _ A.in1 (ret Value.none) _ _ s'
    exact wpAny_pure (hR s' (hm.mono hsub) (hS.at fun o ho => hm.heap S _ hSw ho))
  | succ k ih =>
    intro i s hk hi hst hS hR
    have hlt : i < n := by omega
    refine codeAny_builtin PyProof.Rows.F.entry_set_update_loop ?_
    rw [Around.under_plainId PyProof.Rows.F.plain_set_update_loop _]
    show wpAny _ A.in1 (pyNext (.ref I) >>= _) _ _ s
    refine wpAny_bind (W.item i s _ _ hlt hst fun v s' hP hst' hm => ?_)
    obtain ⟨t, rfl⟩ := hval i v hP
    have hS' : MetR w s'.heap S val i := hS.at fun o ho => hm.heap S _ hSw ho
    show wpAny _ A.in1 (holding [Value.int (val i) t] (setAdd S (.int (val i) t)) >>= _) _ _ s'
    refine wpAny_bind (wpAny_holding ?_)
    unfold setAdd
    refine wpAny_holding ?_
    refine wpAny_bind ((intKind P w).pyHash (k := val i) (intKind_is _ _ _ _) ?_)
    have hroom : (firstMet val i).length + 1 < scanBound := by have := firstMet_length_le val i; omega
    refine setR_add_hashed (s := { s' with toks := s'.toks + 1 }) hS' hroom fun h' hsb hS2 => ?_
    refine wpAny_pure ⟨plainId_quiet PyProof.Rows.F.plain_set_update_loop _, ih (i + 1) _ (by omega) hlt (W.frame _ s' _ _ hst' (Nat.le_succ _) fun b hb o e => ?_) (MetR.next hS2) fun s'' hm'' hS'' => ?_⟩
    · rw [hsb.2 b (fun h : b = S => hSf (by rw [← h]; exact hb))]; exact e
    · refine hR s'' (Moved.trans W.gtrans ((hm.mono hsub).then_heap (Nat.le_succ _) fun b o hb e => ?_) hm'') hS''
      rw [hsb.2 b (fun h : b = S => hb (by rw [h]; exact List.mem_cons_self))]; exact e
theorem set_new_led (a : Value) {Q₁ : Value → Shared → Prop}
    (h : Q₁ (.ref s.heap.objs.size) { s with heap := s.heap.push { cls := .type "set", dict := none, data := .set #[] 0 (.fresh 0 0 (!w.params.followText "set-order")) } }) :
    codeAny (model P w) A (.call (.builtin "set.__new__") ⟨[.type "set", a], []⟩) (wants Q₁ E) s := by
  refine codeAny_of_tree ?_
  show wpAny _ A.in1 (do checkBuiltinCall "set.__new__" ⟨[.type "set", a], []⟩; again (.builtin "set.__new__" ⟨[.type "set", a], []⟩)) _ _ s
  refine wpAny_bind (wpAny_of_eq (PySem.F.newCall_set_1 a) (wpAny_pure ⟨plainId_quiet F.plain_set_new _, codeAny_builtin F.entry_set_new ?_⟩))
  rw [Around.under_plainId F.plain_set_new _]
  unfold Builtin.«set.__new__» Builtin.Frozenset.newClass
  have hsub := sub_set_self
  obtain ⟨hp, g, d, tk, os⟩ := s
  dsimp only
  wp_walk
  refine wpAny_askSetting (wpAny_pure ?_)
  dsimp only
  simp only [newObj]
  refine wpAny_bind (wpAny_alloc (wpAny_pure ?_))
  exact wpAny_pure h
/-- the empty set that set(..) begins with -/
abbrev set0 (w : World) : Obj := { cls := .type "set", dict := none, data := .set #[] 0 (.fresh 0 0 (!w.params.followText "set-order")) }
theorem set_of_listR {l : Addr} {items : Array Value} {ns : List Int} {Q : Value → Shared → Prop} (hh : A.handled = none) (hl : s.heap.IsList l items) (hi : PyProof.Rows.IntsAre items.toList ns) (hb : items.size + 1 < scanBound)
    (h : ∀ (h' : Heap) (tk : Nat), MetR w h' s.heap.objs.size (fun i => ns.getD i 0) items.size → (∀ b o, b < s.heap.objs.size → s.heap.get? b = some o → h'.get? b = some o) → Q (.ref s.heap.objs.size) { s with heap := h', toks := tk }) :
    wpAny (model P w) A (call (.type "set") [.ref l]) Q E s := by
  obtain ⟨c, tl, hmro⟩ := PySem.F.called_set.mro
  have hmade := PySem.F.called_set.made
  have hsub := PySem.F.called_set.sub
  refine wpAny_call (codeAny_of_tree ?_)
  show wpAny _ _ (callAny (.type "set") _) _ _ _
  refine wpAny_pure ⟨Code.quiet_builtin _ (by decide +kernel), codeAny_builtin PySem.F.entry_type_call ?_⟩
  rw [Around.under_plain (weight_type_call_type "set" [.ref l] []) rfl]
  have h1 := PySem.F.called_set.notType
  have h2 := PySem.F.called_set.canCreate
  have hct := PySem.F.typeCall_set_1 (.ref l)
  repeat (any_goals (first | assumption | wp_step))
  refine codeAny_mono (set_new_led (w := w) (.ref l) (E := E) (Q₁ := fun obj s₁ => obj = .ref s.heap.objs.size ∧ s₁ = { s with heap := s.heap.push (set0 w) }) ⟨rfl, rfl⟩) fun r s₁ hr => ?_
  cases r with
  | error e => exact hr
  | ok fl =>
    cases fl with
    | ret obj =>
      obtain ⟨rfl, rfl⟩ := hr
      have hS : (s.heap.push (set0 w)).get? s.heap.objs.size = some (set0 w) := Heap.get?_push_size _ rfl
      have hT : Shared.TypeIs { s with heap := s.heap.push (set0 w) } (.ref s.heap.objs.size) "set" := ⟨_, hS, rfl⟩
      have hli := PySem.F.called_set.init.lookup
      have hbi := PySem.F.called_set.init.bind (.ref s.heap.objs.size)
      repeat (any_goals (first | assumption | wp_step))
      refine codeAny_mono (codeAny_call_builtin (R := wants (fun r s₂ => r = .none ∧ ∃ h' tk, s₂ = { s with heap := h', toks := tk } ∧ MetR w h' s.heap.objs.size (fun i => ns.getD i 0) items.size ∧
          (∀ b o, b < s.heap.objs.size → s.heap.get? b = some o → h'.get? b = some o)) E) PySem.F.called_set.init.plain PySem.F.entry_set_init (check_set_init_1 hT ?_)) fun r₂ s₂ hr₂ => ?_
      · obtain ⟨ol, hol, hcl, nl, hdl⟩ := hl
        obtain ⟨ocls, odict, odata, oslots⟩ := ol
        simp only at hcl hdl
        subst hcl; subst hdl
        have hol' : (s.heap.push (set0 w)).get? l = some { cls := .type "list", dict := odict, data := .seq items nl, slots := oslots } := Heap.get?_push_of_some _ hol
        have hsls := PySem.F.sub_list_set
        have hslf := PySem.F.sub_list_frozenset
        have hne : (Value.type "list" == Value.type "dict") = false := by decide
        have hl1 : (s.heap.push (set0 w)).IsList l items := ⟨_, hol', rfl, nl, rfl⟩
        unfold Builtin.«set.__init__» noKeywords Builtin.Frozenset.updateFrom
        generalize hPI : pyIter = PI
        wp_walk
        subst hPI
        refine wpAny_pyIter_list hl1 ?_
        refine wpAny_bind (wpAny_runValue ?_)
        have hlS : l < s.heap.objs.size := Heap.lt_size hol
        have hh3 : A.in1.in1.in1.handled = none := by simp [hh]
        have hneI : l ≠ (s.heap.push (set0 w)).objs.size := by
          rw [Heap.size_push]; exact Nat.ne_of_lt (Nat.lt_succ_of_lt hlS)
        have hSf : s.heap.objs.size ∉ [(s.heap.push (set0 w)).objs.size, l] := by
          rw [Heap.size_push]; simp only [List.mem_cons, List.mem_singleton, List.not_mem_nil, or_false, not_or]
          exact ⟨Nat.ne_of_lt (Nat.lt_succ_self _), Nat.ne_of_gt hlS⟩
        have hval : ∀ (i : Nat) (v : Value), items[i]? = some v → ∃ t, v = .int ((fun i => ns.getD i 0) i) t := fun i v hv =>
          PyProof.Rows.IntsAre.int_at hi i v (by rw [Array.getElem?_toList]; exact hv)
        refine upd_loopR ((Walks.list hh3 _ l hneI items).toS) s.heap.objs.size hSf (fun i => ns.getD i 0) hval hb (items.size - 0) 0 _ (by omega) (Nat.zero_le _)
          ⟨⟨_, Heap.get?_push_size _ rfl, rfl, rfl⟩, (hl1.push _)⟩ ?hS0 ?hR
        case hS0 => exact (setR_fresh w).at fun o ho => Heap.get?_push_of_some _ ho
        case hR =>
          intro s' hm hS'
          obtain ⟨h', g', d', tk', os'⟩ := s'
          have eg : g' = s.gens := hm.gens
          have ed : d' = s.drawn := hm.drawn
          have eo : os' = s.os := hm.os
          subst eg; subst ed; subst eo
          show wpAny _ _ _ _ _ _
          refine wpAny_pure ?_
          show wpAny _ _ (ret Value.none) _ _ _
          refine wpAny_pure ⟨rfl, h', tk', rfl, hS', fun b o hb e => ?_⟩
          have hb1 : b ≠ s.heap.objs.size := Nat.ne_of_lt hb
          have hb2 : b ≠ (s.heap.push (set0 w)).objs.size := by
            rw [Heap.size_push]; exact Nat.ne_of_lt (Nat.lt_succ_of_lt hb)
          exact hm.heap b o (by simp only [List.mem_cons, List.mem_singleton, List.not_mem_nil, or_false, not_or]; exact ⟨hb1, hb2⟩) (Heap.get?_push_of_some _ (Heap.get?_push_of_some _ e))
      · cases r₂ with
        | error e => exact hr₂
        | ok fl₂ =>
          cases fl₂ with
          | ret r =>
            obtain ⟨rfl, h', tk, rfl, hS', hk'⟩ := hr₂
            repeat (any_goals (first | assumption | wp_step))
            exact h _ _ hS' hk'
          | _ => exact hr₂.elim
    | _ => exact hr.elim
/-- sorted(s), s a set of ints of any size -/
theorem sorted_setR {a : Addr} {S : Int → Bool} {n : Nat} {Q : Value → Shared → Prop} (R : SetR w s.heap a S n) (hh : A.handled = none)
    (hQ : ∀ s' p (out : Array Value) (c : Nat) (ns : List Int), (∀ b o, s.heap.get? b = some o → s'.heap.get? b = some o) → s'.gens = s.gens → s'.os = s.os → s.heap.objs.size ≤ p →
      s'.heap.get? p = some (seqObj "list" out c) → IntsAre out.toList ns → ns.Pairwise (· < ·) → (∀ k, k ∈ ns ↔ S k = true) → ns.length = n → Q (.ref p) s') :
    wpAny (model P w) A (call (.builtin "sorted") [.ref a]) Q E s := by
  obtain ⟨o, es, ep, t, ho, hex, hd, g, nd, hm, hb, hf, hn, hr, hl⟩ := R
  have hsz : n < scanBound := by rw [← hn]; exact hb
  have h4 : scanBound = 4096 := rfl
  refine Calls.call_function_entry kind_sorted plain_sorted entry_sorted (args_sorted1 _) ?_
  unfold Builtin.«sorted»
  refine wpAny_bind (m := checkCount "sorted" 1 1 _) (wpAny_pure ?_)
  refine wpAny_bind (collect_set (A := A.in1) hh ⟨o, ho, hex.1, hd⟩ hf hb hr hl fun s1 vs k1 hz g1 o1 pm => ?_)
  have hvl : vs.length = n := by rw [pm.length_eq, List.length_map, Array.length_toList]; exact hn
  have hI : IntsAre vs (vs.map Builtin.Re.reRawOf) := ints_of vs fun v hv => by
    obtain ⟨e, he, q⟩ := List.mem_map.mp (pm.mem_iff.mp hv)
    obtain ⟨k, tk, h1, _⟩ := g e he
    exact ⟨k, tk, by rw [← q]; exact h1⟩
  have pk : (vs.map Builtin.Re.reRawOf).Perm (es.toList.map keyOf) := by
    have q := pm.map Builtin.Re.reRawOf
    rw [List.map_map] at q
    exact q
  have hvz : vs.length ≤ sizeLine := by rw [hvl, PySem.sizeLine_eq]; omega
  refine wpAny_bind (wpAny_newList ?_ hvz)
  have hoL : (s1.heap.push (seqObj "list" vs.toArray 0)).get? s1.heap.objs.size = some (seqObj "list" vs.toArray 0) := Heap.get?_push_size _ rfl
  refine wpAny_bind (wpAny_holding (wpAny_call_entry slot_list_sort ⟨_, hoL, rfl⟩ entry_list_sort (list_sort_treeAny hoL hI hvz fun out ns' a1 a2 a3 => ⟨_, rfl, ?_⟩) (args_list_sort _)))
  obtain ⟨c, hc⟩ := sortedHeap_at (vs := vs) (out := out) hoL
  have pn : ns'.Perm (es.toList.map keyOf) := a2.trans pk
  refine wpAny_pure ⟨_, rfl, hQ _ s1.heap.objs.size out c ns' (fun b u e => ?_) g1 o1 hz hc a1 (lt_of_le_nodup ns' a3 (pn.nodup_iff.mpr nd)) (fun k => by rw [pn.mem_iff, ← hm k]) ?_⟩
  · have q := k1 b u e
    have hlt := Heap.lt_size q
    show (sortedHeap (s1.heap.push (seqObj "list" vs.toArray 0)) s1.heap.objs.size vs out).get? b = some u
    rw [sortedHeap_old (Nat.ne_of_lt hlt) (by rw [size_push']; exact Nat.lt_succ_of_lt hlt)]
    exact Heap.get?_push_of_some _ q
  · rw [pn.length_eq, List.length_map, Array.length_toList]; exact hn
end
end L2
namespace L2
open PySem PySem.Spec PyProof.Rows
section
variable {X : Cx}
/-- sorted(set(a)), a a list of ints -/
def tSortSet (K : PySem.W.Frag) (ta : TE) : TE := fun σ H Q => ta σ H fun x H1 => ∃ (l : Addr) (ns : List Int), x = V.ref l ∧ SqL K H1 l (ns.map V.int) ∧ ns.length < 4000 ∧
  ∀ (ms : List Int), ms.Pairwise (· < ·) → (∀ k, k ∈ ms ↔ k ∈ ns) → ∀ p, H1 p = none → Q (.ref p) (upd H1 p (.lst (ms.map V.int)))
theorem firstMet_mem (val : Nat → Int) (k : Int) : ∀ i : Nat, (firstMet val i).any (· == k) = true ↔ ∃ j, j < i ∧ val j = k
  | 0 => by rw [firstMet_zero]; simp
  | i + 1 => by
    rw [firstMet_succ, step_any, Bool.or_eq_true, firstMet_mem val k i, decide_eq_true_eq]
    constructor
    · rintro (⟨j, hj, e⟩ | e)
      · exact ⟨j, by omega, e⟩
      · exact ⟨i, by omega, e.symm⟩
    · rintro ⟨j, hj, e⟩
      by_cases c : j = i
      · subst c; exact .inr e.symm
      · exact .inl ⟨j, by omega, e⟩
theorem pe_sortSet {a : Expr} {ta : TE} {p p2 q pos : Pos} (hc : X.calm = true) (hg : Gl X "sorted") (hm : X.mg "sorted" = none) (hg2 : Gl X "set") (hm2 : X.mg "set" = none) (ha : PE X a ta)
    (na : starEach [a] X.env = (false, eval a X.env) :: starEach [] X.env := by rfl) : PE X (.Call (.Name "sorted" p) [.Call (.Name "set" p2) [a] [] q] [] pos) (tSortSet X.K ta) := by
  refine ⟨fun pins s σ H Q I h => ?_⟩
  refine Call_ (ld_blt I hg hm PyProof.Rows.boot_sorted ?_)
  refine PyProof.Rows.callWith_builtin1 (PyProof.Rows.args_cons ?_ rfl) rfl rfl
  refine Call_ (ld_blt I hg2 hm2 PyProof.Rows.boot_set ?_)
  refine PyProof.Rows.callWith_type1 (PyProof.Rows.args_cons (thn (ha.run pins s σ H _ I h) fun v s1 ⟨x, H1, I1, r1, q1⟩ => PyProof.Rows.args_nil ?_) na) na rfl
  obtain ⟨l, ns, rfl, hq, hl, q1⟩ := q1
  cases r1
  obtain ⟨its, r, pl, hz⟩ := I1.list hq
  have hsz : its.toArray.size = ns.length := by rw [List.size_toArray, ← r.length, List.length_map]
  have h4 : scanBound = 4096 := rfl
  refine set_of_listR (I1.ok.hd hc) pl.isList (ns := ns) (by simpa using r.ints) (by omega) fun h' tk hS hk => ?_
  refine PyProof.Rows.args_nil ?_
  have I2 : Inv X pins σ H1 { s1 with heap := h', toks := tk } := I1.kept fun b o e => hk b o (Heap.lt_size e) e
  have hS2 : MetR X.w ({ s1 with heap := h', toks := tk } : Shared).heap s1.heap.objs.size (fun i => ns.getD i 0) its.toArray.size := hS
  generalize ({ s1 with heap := h', toks := tk } : Shared) = s2 at I2 hS2 ⊢
  generalize s1.heap.objs.size = sa at hS2 ⊢
  refine sorted_setR hS2 (I2.ok.hd hc) fun s' p out c ms k g o hp hg hi hpw hmem hn => ?_
  have hlen : (ms.map V.int).length ≤ sizeLine := by
    have := firstMet_length_le (fun i => ns.getD i 0) its.toArray.size
    rw [List.length_map, hn, PySem.sizeLine_eq]
    omega
  have hnp : H1 p = none := I2.hok.fresh hp
  have J : Inv X pins σ (upd H1 p (.lst (ms.map V.int))) { s2 with heap := s'.heap, gens := s'.gens, drawn := s'.drawn, toks := s'.toks } :=
    I2.call (ch := []) (Un.laid k hp hnp) (I2.hok.laid k hp ⟨hlen, out.toList, c, vals_of_ints hi, hg⟩) (by rw [g]; exact I2.bare) (fun _ z => nomatch z)
  have e : s' = { s2 with heap := s'.heap, gens := s'.gens, drawn := s'.drawn, toks := s'.toks } := by
    cases s'
    cases s2
    cases o
    rfl
  rw [e]
  refine ⟨.ref p, _, J, rfl, q1 ms hpw (fun j => ?_) p hnp⟩
  rw [hmem j, firstMet_mem, hsz]
  constructor
  · rintro ⟨i, hi', e'⟩
    rw [← e', List.getD_eq_getElem?_getD, List.getElem?_eq_getElem hi']
    exact List.getElem_mem hi'
  · intro hj
    obtain ⟨i, hi', e'⟩ := List.getElem_of_mem hj
    exact ⟨i, hi', by rw [List.getD_eq_getElem?_getD, List.getElem?_eq_getElem hi']; exact e'⟩
end
end L2
namespace Tw
open PySem PySem.Spec PyProof.Rows L2
def insU (x : Int) : List Int → List Int
  | [] => [x]
  | y :: l => if x < y then x :: y :: l else if x = y then y :: l else y :: insU x l
/-- ascending, each once -/
def sortU (ns : List Int) : List Int := ns.foldr insU []
theorem mem_insU {x k : Int} : ∀ {l : List Int}, k ∈ insU x l ↔ k = x ∨ k ∈ l
  | [] => by simp [insU]
  | y :: l => by
    unfold insU
    split
    · simp
    · split
      · next e => subst e; simp
      · rw [List.mem_cons, mem_insU, List.mem_cons]
        constructor
        · rintro (h | h | h) <;> simp [h]
        · rintro (h | h | h) <;> simp [h]
theorem pw_insU {x : Int} : ∀ {l : List Int}, l.Pairwise (· < ·) → (insU x l).Pairwise (· < ·)
  | [], _ => by simp [insU]
  | y :: l, h => by
    unfold insU
    obtain ⟨h1, h2⟩ := List.pairwise_cons.mp h
    split
    · next c =>
      refine List.pairwise_cons.mpr ⟨fun z hz => ?_, h⟩
      rcases List.mem_cons.mp hz with e | e
      · omega
      · have := h1 z e; omega
    · split
      · exact h
      · next c1 c2 =>
        refine List.pairwise_cons.mpr ⟨fun z hz => ?_, pw_insU h2⟩
        rcases mem_insU.mp hz with e | e
        · omega
        · exact h1 z e
theorem mem_sortU {k : Int} : ∀ {ns : List Int}, k ∈ sortU ns ↔ k ∈ ns
  | [] => Iff.rfl
  | n :: ns => by
    show k ∈ insU n (sortU ns) ↔ _
    rw [mem_insU, mem_sortU, List.mem_cons]
theorem pw_sortU : ∀ {ns : List Int}, (sortU ns).Pairwise (· < ·)
  | [] => List.Pairwise.nil
  | _ :: _ => pw_insU pw_sortU
theorem asc_eq : ∀ {l m : List Int}, l.Pairwise (· < ·) → m.Pairwise (· < ·) → (∀ k, k ∈ l ↔ k ∈ m) → l = m
  | [], [], _, _, _ => rfl
  | [], y :: m, _, _, h => absurd ((h y).mpr (List.mem_cons_self ..)) (by simp)
  | x :: l, [], _, _, h => absurd ((h x).mp (List.mem_cons_self ..)) (by simp)
  | x :: l, y :: m, hl, hm, h => by
    obtain ⟨a1, a2⟩ := List.pairwise_cons.mp hl
    obtain ⟨b1, b2⟩ := List.pairwise_cons.mp hm
    have e : x = y := by
      rcases List.mem_cons.mp ((h x).mp (List.mem_cons_self ..)) with c | c
      · exact c
      · rcases List.mem_cons.mp ((h y).mpr (List.mem_cons_self ..)) with d | d
        · exact d.symm
        · have := b1 x c
          have := a1 y d
          omega
    subst e
    refine congrArg _ (asc_eq a2 b2 fun k => ?_)
    constructor
    · intro hk
      rcases List.mem_cons.mp ((h k).mp (List.mem_cons_of_mem _ hk)) with c | c
      · have := a1 k hk; omega
      · exact c
    · intro hk
      rcases List.mem_cons.mp ((h k).mpr (List.mem_cons_of_mem _ hk)) with c | c
      · have := b1 k hk; omega
      · exact c
def gSortSet : T → Option T
  | .lst ts => (intsOf ts).bind fun ns => if ns.length < 4000 then some (.lst ((sortU ns).map T.int)) else none
  | _ => none
section
variable {X : Cx} {κ : List Bool} {B M : List Nat} {f : Ex} {e : Expr} {p p2 q pos : Pos}
theorem sx_sortSet (hc : X.calm = true) (hg : Gl X "sorted") (hm : X.mg "sorted" = none) (hg2 : Gl X "set") (hm2 : X.mg "set" = none) (ha : SX X e false B M κ f)
    (na : starEach [e] X.env = (false, eval e X.env) :: starEach [] X.env := by rfl) : SX X (.Call (.Name "sorted" p) [.Call (.Name "set" p2) [e] [] q] [] pos) true [] M κ (eUn gSortSet f) :=
  PE.weak (pe_sortSet hc hg hm hg2 hm2 ha na) fun σ H Q ⟨N, G, γ, r, γ', S, ef, q⟩ => by
  unfold eUn at ef
  obtain ⟨⟨t1, γ1⟩, e1, ef⟩ := Option.bind_eq_some_iff.mp ef
  obtain ⟨t4, e4, ef⟩ := Option.map_eq_some_iff.mp ef
  cases ef
  dsimp only at e4
  unfold gSortSet at e4
  split at e4
  case h_2 => cases e4
  rename_i ts
  obtain ⟨ns, e2, e4⟩ := Option.bind_eq_some_iff.mp e4
  split at e4
  case isFalse => cases e4
  rename_i hz
  cases e4
  refine ⟨N, G, γ, _, _, S, e1, fun v1 G1 H1 s1 S1 k1 r1 => ?_⟩
  obtain ⟨a, vs, rfl, h1, r2⟩ := r1.rdy.list S1
  rw [intsOf_some e2] at r2
  rw [r2.ints] at h1
  refine ⟨a, ns, rfl, .inl (.inl h1), hz, fun ms hp hk p hn => ?_⟩
  rw [asc_eq hp pw_sortU fun k => (hk k).trans mem_sortU.symm]
  obtain ⟨S', fr⟩ := S1.listed hn (Reps.ints_of (K := X.K) (G := G1) (sortU ns))
  exact q _ G1 _ s1 S' k1 (.new fr)
end
end Tw

namespace Tw
open L2 PySem
/-! ### reckoning with the combinators -/
section
variable {γ γ' γ1 γ2 : En} {f f1 f2 a b c : Ex} {g h : Ax} {t t1 t2 u : T} {F F1 F2 : Fs} {cc c1 c2 : Tx} {i j k : Nat} {ts us : List T}
theorem sSeq_nx (h : F1 γ = some (.nx γ')) : sSeq F1 F2 γ = F2 γ' := by unfold sSeq; rw [h]
theorem sSeq_rt (h : F1 γ = some (.rt t γ')) : sSeq F1 F2 γ = some (.rt t γ') := by unfold sSeq; rw [h]
theorem sSeq_bk (h : F1 γ = some (.bk γ')) : sSeq F1 F2 γ = some (.bk γ') := by unfold sSeq; rw [h]
theorem sSeq_ct (h : F1 γ = some (.ct γ')) : sSeq F1 F2 γ = some (.ct γ') := by unfold sSeq; rw [h]
theorem sIf_t (h : cc γ = some (true, γ')) : sIf cc F1 F2 γ = F1 γ' := by unfold sIf; rw [h]; rfl
theorem sIf_f (h : cc γ = some (false, γ')) : sIf cc F1 F2 γ = F2 γ' := by unfold sIf; rw [h]; rfl
theorem semOf_rt {n : Nat} {pl : List Nat} (hγ : ts.map some ++ List.replicate (n - ts.length) none = γ) (h : F γ = some (.rt t γ')) : semOf n pl F ts = some (t, outsOf pl γ') := by
  subst hγ
  unfold semOf
  rw [h]
theorem semOf_nx {n : Nat} {pl : List Nat} (hγ : ts.map some ++ List.replicate (n - ts.length) none = γ) (h : F γ = some (.nx γ')) : semOf n pl F ts = some (.non, outsOf pl γ') := by
  subst hγ
  unfold semOf
  rw [h]
theorem tOr_ff (h1 : c1 γ = some (false, γ1)) (h2 : c2 γ1 = some (false, γ2)) : tOrT c1 c2 γ = some (false, γ2) := by
  unfold tOrT
  rw [h1]
  simpa using h2
theorem tOr_t (h1 : c1 γ = some (true, γ1)) : tOrT c1 c2 γ = some (true, γ1) := by
  unfold tOrT
  rw [h1]
  rfl
theorem tAnd_f (h1 : c1 γ = some (false, γ1)) : tAndT c1 c2 γ = some (false, γ1) := by
  unfold tAndT
  rw [h1]
  rfl
theorem tAnd_t {b : Bool} (h1 : c1 γ = some (true, γ1)) (h2 : c2 γ1 = some (b, γ2)) : tAndT c1 c2 γ = some (b, γ2) := by
  unfold tAndT
  rw [h1]
  simpa using h2
theorem tNt {b : Bool} (h : cc γ = some (b, γ')) : tNotT cc γ = some (!b, γ') := by
  unfold tNotT
  rw [h]
  rfl
theorem tTr {b : Bool} (h : f γ = some (.bl b, γ')) : tTru f γ = some (b, γ') := by
  unfold tTru
  rw [h]
  rfl
theorem sIf_no (h : cc γ = some (false, γ')) : sSeq (sIf cc F1 sNx) F2 γ = F2 γ' := by unfold sSeq sIf; rw [h]; rfl
theorem sIf_ret (h : cc γ = some (true, γ1)) (h2 : f γ1 = some (t, γ')) : sSeq (sIf cc (sRet f) F1) F2 γ = some (.rt t γ') := by unfold sSeq sIf sRet; rw [h]; simp [h2]
@[simp] theorem r_seq : sSeq F1 F2 γ = match F1 γ with | some (.nx γ') => F2 γ' | o => o := rfl
@[simp] theorem r_if : sIf cc F1 F2 γ = (cc γ).bind fun p => if p.1 then F1 p.2 else F2 p.2 := rfl
@[simp] theorem r_nx : sNx γ = some (.nx γ) := rfl
@[simp] theorem r_kill : sKill i F γ = F (γ.set i none) := rfl
@[simp] theorem r_asg : sAsg i f γ = (f γ).map fun p => .nx (p.2.set i (some p.1)) := rfl
@[simp] theorem r_drop : sDrop f γ = (f γ).map fun p => .nx p.2 := rfl
@[simp] theorem r_ret : sRet f γ = (f γ).map fun p => .rt p.1 p.2 := rfl
@[simp] theorem r_retN : sRetN γ = some (.rt .non γ) := rfl
@[simp] theorem r_brk : sBrk γ = some (.bk γ) := rfl
@[simp] theorem r_cnt : sCnt γ = some (.ct γ) := rfl
@[simp] theorem r_no : sNo γ = none := rfl
@[simp] theorem r_lit : eLit t γ = some (t, γ) := rfl
@[simp] theorem r_bin {g : T → T → Option T} : eBin g a b γ = (a γ).bind fun p => (b p.2).bind fun q => (g p.1 q.1).map fun r => (r, q.2) := rfl
@[simp] theorem r_un {g : T → Option T} : eUn g a γ = (a γ).bind fun p => (g p.1).map fun r => (r, p.2) := rfl
@[simp] theorem r_nil : aNil γ = some ([], γ) := rfl
@[simp] theorem r_cons : aCons f g γ = (f γ).bind fun p => (g p.2).map fun q => (p.1 :: q.1, q.2) := rfl
@[simp] theorem r_io : aIo i g γ = (eVar i γ).bind fun _ => (g γ).bind fun p => (eVar i p.2).map fun q => (q.1 :: p.1, p.2) := rfl
@[simp] theorem r_call {g : List T → Option T} {a : Ax} : eCall g a γ = (a γ).bind fun p => (g p.1).map fun r => (r, p.2) := rfl
@[simp] theorem r_own {F : Sem'} {io : List Nat} {a : Ax} : eOwn F io a γ = (a γ).bind fun p => (F p.1).map fun q => (q.1, setAll p.2 io q.2) := rfl
@[simp] theorem r_sall {io : List Nat} : setAll γ (i :: io) (u :: us) = setAll (γ.set i (some u)) io us := rfl
@[simp] theorem r_sall0 : setAll γ [] us = γ := rfl
@[simp] theorem r_var : eVar i γ = match γ[i]? with | some (some t) => some (t, γ) | _ => none := rfl
@[simp] theorem r_tup {a : Ax} : eTup a γ = (a γ).bind fun p => if p.1.length ≤ sizeLine then some (.tup p.1, p.2) else none := rfl
@[simp] theorem r_lst {a : Ax} : eLst a γ = (a γ).bind fun p => if p.1.length ≤ sizeLine then some (.lst p.1, p.2) else none := rfl
@[simp] theorem r_eif : eIf cc a b γ = (cc γ).bind fun p => if p.1 then a p.2 else b p.2 := rfl
@[simp] theorem r_not : eNot f γ = match f γ with | some (.bl b, γ') => some (.bl (!b), γ') | _ => none := rfl
@[simp] theorem r_and : eAnd f1 f2 γ = match f1 γ with | some (.bl true, γ') => f2 γ' | some (.bl false, γ') => some (.bl false, γ') | _ => none := rfl
@[simp] theorem r_or : eOr f1 f2 γ = match f1 γ with | some (.bl false, γ') => f2 γ' | some (.bl true, γ') => some (.bl true, γ') | _ => none := rfl
@[simp] theorem r_tof : tOf f γ = match f γ with | some (.bl b, γ') => some (b, γ') | _ => none := rfl
@[simp] theorem r_eof : eOf cc γ = (cc γ).map fun p => (.bl p.1, p.2) := rfl
@[simp] theorem r_tnot : tNotT cc γ = (cc γ).map fun p => (!p.1, p.2) := rfl
@[simp] theorem r_tand : tAndT c1 c2 γ = (c1 γ).bind fun p => if p.1 then c2 p.2 else some (false, p.2) := rfl
@[simp] theorem r_tor : tOrT c1 c2 γ = (c1 γ).bind fun p => if p.1 then some (true, p.2) else c2 p.2 := rfl
@[simp] theorem r_tru : tTru f γ = (f γ).bind fun p => (truT p.1).map fun k => (k, p.2) := rfl
@[simp] theorem r_truB {b : Bool} : truT (.bl b) = some b := rfl
@[simp] theorem r_truI {n : Int} : truT (.int n) = some (n != 0) := rfl
@[simp] theorem r_truN : truT .non = some false := rfl
@[simp] theorem r_truL : truT (.lst ts) = some (!ts.isEmpty) := rfl
@[simp] theorem r_tgN : tgN i t γ = some (γ.set i (some t)) := rfl
@[simp] theorem r_tgnil : tgNil [] γ = some γ := rfl
@[simp] theorem r_tgcons {g : T → En → Option En} {h : TgT} : tgCons g h (t :: ts) γ = (g t γ).bind fun γ1 => h ts γ1 := rfl
@[simp] theorem r_tgseqT {n : Nat} {h : TgT} : tgSeq n h (.tup ts) γ = if ts.length = n then h ts γ else none := rfl
@[simp] theorem r_tgseqL {n : Nat} {h : TgT} : tgSeq n h (.lst ts) γ = if ts.length = n then h ts γ else none := rfl
@[simp] theorem r_asgT {tg : T → En → Option En} : sAsgT tg f γ = (f γ).bind fun p => (tg p.1 p.2).map .nx := rfl
@[simp] theorem r_par {a : Ax} : sPar i j a γ = match a γ with | some ([t, u], γ') => some (.nx ((γ'.set i (some t)).set j (some u))) | _ => none := rfl
@[simp] theorem r_par3 {a : Ax} : sPar3 i j k a γ = match a γ with | some ([t, u, w], γ') => some (.nx (((γ'.set i (some t)).set j (some u)).set k (some w))) | _ => none := rfl
@[simp] theorem r_setI {fv fi : Ex} : sSetI i fv fi γ = (fv γ).bind fun p => match p.2[i]? with
  | some (some _) => (fi p.2).bind fun q => match q.2[i]?, q.1 with
    | some (some (.lst ts)), .int k => (ixN ts.length k).map fun j => .nx (q.2.set i (some (.lst (ts.set j p.1))))
    | _, _ => none
  | _ => none := rfl
@[simp] theorem r_mut {kd : T → Bool} {g : T → List T → Option (T × T)} {a : Ax} : eMut i kd g a γ = match γ[i]? with
  | some (some t0) => if kd t0 then (a γ).bind fun p => match p.2[i]? with
    | some (some t) => (g t p.1).map fun q => (q.1, p.2.set i (some q.2))
    | _ => none else none
  | _ => none := rfl
@[simp] theorem r_isL : isL (.lst ts) = true := rfl
@[simp] theorem r_app : gApp (.lst ts) [u] = if ts.length < sizeLine then some (.non, .lst (ts ++ [u])) else none := rfl
@[simp] theorem r_for {src : Ix} {tg : T → En → Option En} : sFor src tg F γ = (src γ).bind fun p => forL tg F p.1 p.2 := rfl
@[simp] theorem r_forL0 {tg : T → En → Option En} : forL tg F [] γ = some (.nx γ) := rfl
@[simp] theorem r_iseq : iSeq f γ = match f γ with | some (.lst ts, γ') => some (ts, γ') | _ => none := rfl
@[simp] theorem r_itup : iTupl f γ = match f γ with | some (.tup ts, γ') => some (ts, γ') | _ => none := rfl
@[simp] theorem r_ir1 {a : Ax} : iR1 a γ = match a γ with | some ([.int j], γ') => if -4611686018427387904 ≤ j ∧ j < 4611686018427387904 then some (rngT 0 j.toNat, γ') else none | _ => none := rfl
@[simp] theorem r_ir2 {a : Ax} : iR2 a γ = match a γ with | some ([.int i, .int j], γ') => if -4611686018427387904 ≤ i ∧ i < 4611686018427387904 ∧ -4611686018427387904 ≤ j ∧ j < 4611686018427387904 then some (rngT i (j - i).toNat, γ') else none | _ => none := rfl
@[simp] theorem r_comp {own : List Nat} {src : Ix} {tg : T → En → Option En} {test : Tx} {elt : Ex} : eComp own src tg test elt γ = (src γ).bind fun p => (compL own tg test elt p.1 p.2 []).map fun q => (.lst q.1, q.2) := rfl
@[simp] theorem r_yes : tYesT γ = some (true, γ) := rfl
@[simp] theorem r_outs0 : outsOf [] γ = [] := rfl
@[simp] theorem r_outs {pl : List Nat} : outsOf (i :: pl) γ = (match γ[i]? with | some (some t) => t | _ => .non) :: outsOf pl γ := rfl
@[simp] theorem r_wipe0 : wipeE γ [] = γ := rfl
@[simp] theorem r_wipe {own : List Nat} : wipeE γ (i :: own) = (wipeE γ own).set i none := rfl
@[simp] theorem r_back0 : backE γ γ' [] = γ' := rfl
@[simp] theorem r_back {own : List Nat} : backE γ γ' (i :: own) = (backE γ γ' own).set i (γ[i]?.getD none) := rfl
end
section
variable {i j : Int} {ts us : List T} {t u : T} {x y : Str} {b : Bool}
@[simp] theorem r_add : gAdd (.int i) (.int j) = some (.int (i + j)) := rfl
@[simp] theorem r_addL : gAdd (.lst ts) (.lst us) = if ts.length + us.length ≤ sizeLine then some (.lst (ts ++ us)) else none := rfl
@[simp] theorem r_addT : gAdd (.tup ts) (.tup us) = if ts.length + us.length ≤ sizeLine then some (.tup (ts ++ us)) else none := rfl
@[simp] theorem r_sub : gSub (.int i) (.int j) = some (.int (i - j)) := rfl
@[simp] theorem r_mul : gMul (.int i) (.int j) = if okMul i j then some (.int (i * j)) else none := rfl
@[simp] theorem r_mod : gMod (.int i) (.int j) = if j ≠ 0 then some (.int (i.fmod j)) else none := rfl
@[simp] theorem r_div : gDiv (.int i) (.int j) = if okDiv j then some (.int (i.fdiv j)) else none := rfl
@[simp] theorem r_pow : gPow (.int i) (.int j) = if 0 ≤ j ∧ j ≤ 1000000 ∧ i.natAbs < 2 ^ 64 then some (.int (i ^ j.toNat)) else none := rfl
@[simp] theorem r_lt : gLt (.int i) (.int j) = some (.bl (decide (i < j))) := rfl
@[simp] theorem r_le : gLe (.int i) (.int j) = some (.bl (decide (i ≤ j))) := rfl
@[simp] theorem r_gt : gGt (.int i) (.int j) = some (.bl (decide (j < i))) := rfl
@[simp] theorem r_ge : gGe (.int i) (.int j) = some (.bl (decide (j ≤ i))) := rfl
@[simp] theorem r_neg : gNeg (.int i) = some (.int (-i)) := rfl
@[simp] theorem r_ixL : gIx (.lst ts) (.int i) = atI ts i := rfl
@[simp] theorem r_ixO : gIx (.old ts) (.int i) = atI ts i := rfl
@[simp] theorem r_ixT : gIx (.tup ts) (.int i) = atI ts i := rfl
@[simp] theorem r_lenL : gLen [.lst ts] = some (.int (ts.length : Nat)) := rfl
@[simp] theorem r_lenO : gLen [.old ts] = some (.int (ts.length : Nat)) := rfl
@[simp] theorem r_lenT : gLen [.tup ts] = some (.int (ts.length : Nat)) := rfl
@[simp] theorem r_int : gInt [.int i] = some (.int i) := rfl
@[simp] theorem r_abs : gAbs [.int i] = some (.int (if i < 0 then -i else i)) := rfl
@[simp] theorem r_gcd : gGcd [.int i, .int j] = some (.int ((Nat.gcd i.natAbs j.natAbs : Nat) : Int)) := rfl
@[simp] theorem r_lof : gListOf [.lst ts] = some (.lst ts) := rfl
@[simp] theorem r_tofL : gTupOf [.lst ts] = some (.tup ts) := rfl
@[simp] theorem r_tofT : gTupOf [.tup ts] = some (.tup ts) := rfl
@[simp] theorem r_is : gIs t u = (isT t u).map T.bl := rfl
@[simp] theorem r_isnt : gIsNot t u = (isT t u).map fun k => T.bl (!k) := rfl
@[simp] theorem r_slT {lo hi : Option Int} : gSl (.tup ts) lo hi = some (.tup (cutT ts lo hi)) := rfl
@[simp] theorem r_slL {lo hi : Option Int} : gSl (.lst ts) lo hi = some (.lst (cutT ts lo hi)) := rfl
@[simp] theorem r_esl {g : T → Option Int → Option Int → Option T} {f : Ex} {lo hi : Ox} {γ : En} : eSl g f lo hi γ = (f γ).bind fun p => (lo p.2).bind fun q => (hi q.2).bind fun r => (g p.1 q.1 r.1).map fun z => (z, r.2) := rfl
theorem eqT_int : eqT (.int i) (.int j) = decide (i = j) := by
  by_cases h : i = j
  · subst h
    simp [eqT, toD, PyData.eqv]
  · simp [eqT, toD, PyData.eqv, h]
@[simp] theorem r_eqI : gEq (.int i) (.int j) = some (.bl (decide (i = j))) := by
  unfold gEq
  rw [show okT (.int i) = true from rfl, show okT (.int j) = true from rfl, eqT_int]
  rfl
@[simp] theorem r_neI : gNe (.int i) (.int j) = some (.bl (!decide (i = j))) := by
  unfold gNe
  rw [show okT (.int i) = true from rfl, show okT (.int j) = true from rfl, eqT_int]
  rfl
theorem atI_of {ts : List T} {n : Nat} {v : T} (h : ts[n]? = some v) : atI ts (n : Int) = some v := atI_nat h
@[simp] theorem atI_0 {ts : List T} : atI (t :: ts) 0 = some t := atI_nat (j := 0) rfl
@[simp] theorem atI_1 {ts : List T} {t1 : T} : atI (t :: t1 :: ts) 1 = some t1 := atI_nat (j := 1) rfl
@[simp] theorem atI_2 {ts : List T} {t1 t2 : T} : atI (t :: t1 :: t2 :: ts) 2 = some t2 := atI_nat (j := 2) rfl
@[simp] theorem atI_3 {ts : List T} {t1 t2 t3 : T} : atI (t :: t1 :: t2 :: t3 :: ts) 3 = some t3 := atI_nat (j := 3) rfl
@[simp] theorem atI_4 {ts : List T} {t1 t2 t3 t4 : T} : atI (t :: t1 :: t2 :: t3 :: t4 :: ts) 4 = some t4 := atI_nat (j := 4) rfl
@[simp] theorem atI_5 {ts : List T} {t1 t2 t3 t4 t5 : T} : atI (t :: t1 :: t2 :: t3 :: t4 :: t5 :: ts) 5 = some t5 := atI_nat (j := 5) rfl
end
theorem okMul_r {i j : Int} (h : j.natAbs < 2 ^ 64) : okMul i j = true := by
  unfold okMul
  simp [h]
theorem okMul_of {i j : Int} {n m : Nat} (hi : i.natAbs < 2 ^ n) (hj : j.natAbs < 2 ^ m) (h : n + m < 134000000) : okMul i j = true := by
  unfold okMul
  by_cases h0 : i.natAbs = 0
  · rw [h0]; rfl
  by_cases h1 : j.natAbs = 0
  · rw [h1]; simp
  have a := (Nat.log2_lt h0).mpr hi
  have b := (Nat.log2_lt h1).mpr hj
  have c : i.natAbs.log2 + j.natAbs.log2 < 134000000 := by omega
  simp [c]
theorem okDiv_of {j : Int} {m : Nat} (h0 : j ≠ 0) (hj : j.natAbs < 2 ^ m) (h : m ≤ 9000) : okDiv j = true := by
  unfold okDiv
  have h1 : j.natAbs ≠ 0 := by omega
  have b := (Nat.log2_lt h1).mpr hj
  have c : j.natAbs.log2 < 9000 := by omega
  simp [c, h0]
/-- the steps of the plain reckoning -/
theorem fmod_lt {i M : Int} (h : 0 < M) : 0 ≤ i.fmod M ∧ i.fmod M < M := ⟨Int.fmod_nonneg_of_pos i h, Int.fmod_lt_of_pos i h⟩
theorem forL_cons {tg : T → En → Option En} {F : Fs} {t : T} {ts : List T} {γ γ1 : En} (h : tg t γ = some γ1) : forL tg F (t :: ts) γ = match F γ1 with
      | some (.nx γ') => forL tg F ts γ'
      | some (.ct γ') => forL tg F ts γ'
      | some (.bk γ') => some (.nx γ')
      | o => o := by
  conv => lhs; unfold forL
  rw [h]
  rfl
/-- a loop that does nothing but look -/
theorem forL_all {tg : T → En → Option En} {F : Fs} {γ : En} : ∀ {ts : List T}, (∀ t ∈ ts, ∃ γ1, tg t γ = some γ1 ∧ F γ1 = some (.nx γ)) → forL tg F ts γ = some (.nx γ)
  | [], _ => rfl
  | t :: ts, h => by
    obtain ⟨γ1, h1, h2⟩ := h t (List.mem_cons_self ..)
    rw [forL_cons h1, h2]
    exact forL_all fun t ht => h t (List.mem_cons_of_mem _ ht)
theorem forL_step {tg : T → En → Option En} {F : Fs} {t : T} {ts : List T} {γ γ1 γ2 : En} (h : tg t γ = some γ1) (h2 : F γ1 = some (.nx γ2)) : forL tg F (t :: ts) γ = forL tg F ts γ2 := by
  rw [forL_cons h, h2]
/-- a loop with what it keeps: I by how many turns are done -/
theorem forL_inv {tg : T → En → Option En} {F : Fs} {I : Nat → En → Prop} : ∀ {ts : List T} {n : Nat} {γ : En}, I n γ → (∀ (i : Nat) (t : T) (γ : En), ts[i]? = some t → I (n + i) γ → ∃ γ1 γ2, tg t γ = some γ1 ∧ F γ1 = some (.nx γ2) ∧ I (n + i + 1) γ2) → ∃ γ', forL tg F ts γ = some (.nx γ') ∧ I (n + ts.length) γ'
  | [], n, γ, h0, _ => ⟨γ, rfl, h0⟩
  | t :: ts, n, γ, h0, h => by
    obtain ⟨γ1, γ2, h1, h2, h3⟩ := h 0 t γ rfl h0
    rw [forL_step h1 h2]
    obtain ⟨γ', a, b⟩ := forL_inv (I := I) (ts := ts) (n := n + 1) (γ := γ2) h3 fun i t γ hi hI => by
      have := h (i + 1) t γ (by simpa using hi) (by rw [show n + (i + 1) = n + 1 + i by omega]; exact hI)
      rw [show n + (i + 1) + 1 = n + 1 + i + 1 by omega] at this
      exact this
    exact ⟨γ', a, by rw [show n + (t :: ts).length = n + 1 + ts.length by simp; omega]; exact b⟩
theorem rngT_mem {lo : Int} {n : Nat} {t : T} (h : t ∈ rngT lo n) : ∃ k : Nat, k < n ∧ t = .int (lo + k) := by
  unfold rngT at h
  obtain ⟨k, h1, h2⟩ := List.mem_map.mp h
  exact ⟨k, List.mem_range.mp h1, h2.symm⟩
theorem rngT_get {lo : Int} {n i : Nat} {t : T} (h : (rngT lo n)[i]? = some t) : i < n ∧ t = .int (lo + i) := by
  unfold rngT at h
  rw [List.getElem?_map] at h
  by_cases hi : i < n
  · rw [List.getElem?_range hi] at h
    exact ⟨hi, (by simpa using h.symm)⟩
  · rw [List.getElem?_eq_none (by simpa using hi)] at h
    cases h
@[simp] theorem rngT_len {lo : Int} {n : Nat} : (rngT lo n).length = n := by simp [rngT]
/-- a comprehension, item by item: I by what is gathered -/
theorem compL_inv {own : List Nat} {tg : T → En → Option En} {test : Tx} {elt : Ex} {I : List T → En → Prop} : ∀ {ts acc : List T} {γ : En}, acc.length + ts.length ≤ PySem.sizeLine → I acc γ →
    (∀ (i : Nat) (t : T) (acc' : List T) (γ : En), ts[i]? = some t → acc'.length = acc.length + i → I acc' γ → ∃ γ1 γ2 γ3 u, tg t (wipeE γ own) = some γ1 ∧ test γ1 = some (true, γ2) ∧ elt γ2 = some (u, γ3) ∧ I (acc' ++ [u]) (backE γ γ3 own)) →
    ∃ us γ', compL own tg test elt ts γ acc = some (us, γ') ∧ I us γ' ∧ us.length = acc.length + ts.length
  | [], acc, γ, _, h0, _ => ⟨acc, γ, rfl, h0, by simp⟩
  | t :: ts, acc, γ, hs, h0, h => by
    obtain ⟨γ1, γ2, γ3, u, e1, e2, e3, e4⟩ := h 0 t acc γ rfl (by simp) h0
    have hl : acc.length < PySem.sizeLine := by
      have : (t :: ts).length = ts.length + 1 := rfl
      omega
    obtain ⟨us, γ', a, b, c⟩ := compL_inv (I := I) (ts := ts) (acc := acc ++ [u]) (γ := backE γ γ3 own) (by simp at hs ⊢; omega) e4 fun i t acc' γ hi hl hI => by
      exact h (i + 1) t acc' γ (by simpa using hi) (by simp at hl; omega) hI
    refine ⟨us, γ', ?_, b, by simp at c ⊢; omega⟩
    conv => lhs; unfold compL
    rw [e1]
    simp only [Option.bind_some]
    rw [e2]
    simp only [Option.bind_some, if_true]
    rw [e3]
    simp only [Option.bind_some]
    rw [if_pos hl]
    exact a
/-- a comprehension that changes nothing -/
theorem compL_map {own : List Nat} {tg : T → En → Option En} {test : Tx} {elt : Ex} {γ : En} {f : T → T} {ts : List T} (hs : ts.length ≤ PySem.sizeLine)
    (h : ∀ t ∈ ts, ∃ γ1 γ2 γ3, tg t (wipeE γ own) = some γ1 ∧ test γ1 = some (true, γ2) ∧ elt γ2 = some (f t, γ3) ∧ backE γ γ3 own = γ) : compL own tg test elt ts γ [] = some (ts.map f, γ) := by
  have : ∀ (ts' acc : List T), (∀ t ∈ ts', t ∈ ts) → acc.length + ts'.length ≤ PySem.sizeLine → compL own tg test elt ts' γ acc = some (acc ++ ts'.map f, γ) := by
    intro ts'
    induction ts' with
    | nil => intro acc _ _; simp [compL]
    | cons t r ih =>
      intro acc hm hl
      obtain ⟨γ1, γ2, γ3, e1, e2, e3, e4⟩ := h t (hm t (List.mem_cons_self ..))
      conv => lhs; unfold compL
      rw [e1]
      simp only [Option.bind_some]
      rw [e2]
      simp only [Option.bind_some, if_true]
      rw [e3]
      simp only [Option.bind_some]
      have hl' : acc.length < PySem.sizeLine := by simp at hl; omega
      rw [if_pos hl', e4, ih (acc ++ [f t]) (fun t ht => hm t (List.mem_cons_of_mem _ ht)) (by simp at hl ⊢; omega)]
      simp
  simpa using this ts [] (fun _ h => h) (by simpa using hs)
/-! ### kinds -/
@[simp] theorem isi_i_i {i : Int} : gIsi "int" (.int i) = some (.bl true) := by
  show (kitB "int" "int").map T.bl = _
  rw [show kitB "int" "int" = some true by decide +kernel]
  rfl
@[simp] theorem isi_i_b {b : Bool} : gIsi "int" (.bl b) = some (.bl true) := by
  show (kitB "bool" "int").map T.bl = _
  rw [show kitB "bool" "int" = some true by decide +kernel]
  rfl
@[simp] theorem isi_i_s {x : Str} : gIsi "int" (.str x) = some (.bl false) := by
  show (kitB "str" "int").map T.bl = _
  rw [show kitB "str" "int" = some false by decide +kernel]
  rfl
@[simp] theorem isi_i_t {ts : List T} : gIsi "int" (.tup ts) = some (.bl false) := by
  show (kitB "tuple" "int").map T.bl = _
  rw [show kitB "tuple" "int" = some false by decide +kernel]
  rfl
@[simp] theorem isi_i_l {ts : List T} : gIsi "int" (.lst ts) = some (.bl false) := by
  show (kitB "list" "int").map T.bl = _
  rw [show kitB "list" "int" = some false by decide +kernel]
  rfl
@[simp] theorem isi_i_n  : gIsi "int" .non = some (.bl false) := by
  show (kitB "NoneType" "int").map T.bl = _
  rw [show kitB "NoneType" "int" = some false by decide +kernel]
  rfl
@[simp] theorem isi_i_d {ts us : List T} : gIsi "int" (.dct ts us) = some (.bl false) := by
  show (kitB "dict" "int").map T.bl = _
  rw [show kitB "dict" "int" = some false by decide +kernel]
  rfl
@[simp] theorem isi_b_i {i : Int} : gIsi "bool" (.int i) = some (.bl false) := by
  show (kitB "int" "bool").map T.bl = _
  rw [show kitB "int" "bool" = some false by decide +kernel]
  rfl
@[simp] theorem isi_b_b {b : Bool} : gIsi "bool" (.bl b) = some (.bl true) := by
  show (kitB "bool" "bool").map T.bl = _
  rw [show kitB "bool" "bool" = some true by decide +kernel]
  rfl
@[simp] theorem isi_b_s {x : Str} : gIsi "bool" (.str x) = some (.bl false) := by
  show (kitB "str" "bool").map T.bl = _
  rw [show kitB "str" "bool" = some false by decide +kernel]
  rfl
@[simp] theorem isi_b_t {ts : List T} : gIsi "bool" (.tup ts) = some (.bl false) := by
  show (kitB "tuple" "bool").map T.bl = _
  rw [show kitB "tuple" "bool" = some false by decide +kernel]
  rfl
@[simp] theorem isi_b_l {ts : List T} : gIsi "bool" (.lst ts) = some (.bl false) := by
  show (kitB "list" "bool").map T.bl = _
  rw [show kitB "list" "bool" = some false by decide +kernel]
  rfl
@[simp] theorem isi_b_n  : gIsi "bool" .non = some (.bl false) := by
  show (kitB "NoneType" "bool").map T.bl = _
  rw [show kitB "NoneType" "bool" = some false by decide +kernel]
  rfl
@[simp] theorem isi_b_d {ts us : List T} : gIsi "bool" (.dct ts us) = some (.bl false) := by
  show (kitB "dict" "bool").map T.bl = _
  rw [show kitB "dict" "bool" = some false by decide +kernel]
  rfl
@[simp] theorem isi_s_i {i : Int} : gIsi "str" (.int i) = some (.bl false) := by
  show (kitB "int" "str").map T.bl = _
  rw [show kitB "int" "str" = some false by decide +kernel]
  rfl
@[simp] theorem isi_s_b {b : Bool} : gIsi "str" (.bl b) = some (.bl false) := by
  show (kitB "bool" "str").map T.bl = _
  rw [show kitB "bool" "str" = some false by decide +kernel]
  rfl
@[simp] theorem isi_s_s {x : Str} : gIsi "str" (.str x) = some (.bl true) := by
  show (kitB "str" "str").map T.bl = _
  rw [show kitB "str" "str" = some true by decide +kernel]
  rfl
@[simp] theorem isi_s_t {ts : List T} : gIsi "str" (.tup ts) = some (.bl false) := by
  show (kitB "tuple" "str").map T.bl = _
  rw [show kitB "tuple" "str" = some false by decide +kernel]
  rfl
@[simp] theorem isi_s_l {ts : List T} : gIsi "str" (.lst ts) = some (.bl false) := by
  show (kitB "list" "str").map T.bl = _
  rw [show kitB "list" "str" = some false by decide +kernel]
  rfl
@[simp] theorem isi_s_n  : gIsi "str" .non = some (.bl false) := by
  show (kitB "NoneType" "str").map T.bl = _
  rw [show kitB "NoneType" "str" = some false by decide +kernel]
  rfl
@[simp] theorem isi_s_d {ts us : List T} : gIsi "str" (.dct ts us) = some (.bl false) := by
  show (kitB "dict" "str").map T.bl = _
  rw [show kitB "dict" "str" = some false by decide +kernel]
  rfl
@[simp] theorem isi_d_i {i : Int} : gIsi "dict" (.int i) = some (.bl false) := by
  show (kitB "int" "dict").map T.bl = _
  rw [show kitB "int" "dict" = some false by decide +kernel]
  rfl
@[simp] theorem isi_d_b {b : Bool} : gIsi "dict" (.bl b) = some (.bl false) := by
  show (kitB "bool" "dict").map T.bl = _
  rw [show kitB "bool" "dict" = some false by decide +kernel]
  rfl
@[simp] theorem isi_d_s {x : Str} : gIsi "dict" (.str x) = some (.bl false) := by
  show (kitB "str" "dict").map T.bl = _
  rw [show kitB "str" "dict" = some false by decide +kernel]
  rfl
@[simp] theorem isi_d_t {ts : List T} : gIsi "dict" (.tup ts) = some (.bl false) := by
  show (kitB "tuple" "dict").map T.bl = _
  rw [show kitB "tuple" "dict" = some false by decide +kernel]
  rfl
@[simp] theorem isi_d_l {ts : List T} : gIsi "dict" (.lst ts) = some (.bl false) := by
  show (kitB "list" "dict").map T.bl = _
  rw [show kitB "list" "dict" = some false by decide +kernel]
  rfl
@[simp] theorem isi_d_n  : gIsi "dict" .non = some (.bl false) := by
  show (kitB "NoneType" "dict").map T.bl = _
  rw [show kitB "NoneType" "dict" = some false by decide +kernel]
  rfl
@[simp] theorem isi_d_d {ts us : List T} : gIsi "dict" (.dct ts us) = some (.bl true) := by
  show (kitB "dict" "dict").map T.bl = _
  rw [show kitB "dict" "dict" = some true by decide +kernel]
  rfl
@[simp] theorem isi_t_i {i : Int} : gIsi "tuple" (.int i) = some (.bl false) := by
  show (kitB "int" "tuple").map T.bl = _
  rw [show kitB "int" "tuple" = some false by decide +kernel]
  rfl
@[simp] theorem isi_t_b {b : Bool} : gIsi "tuple" (.bl b) = some (.bl false) := by
  show (kitB "bool" "tuple").map T.bl = _
  rw [show kitB "bool" "tuple" = some false by decide +kernel]
  rfl
@[simp] theorem isi_t_s {x : Str} : gIsi "tuple" (.str x) = some (.bl false) := by
  show (kitB "str" "tuple").map T.bl = _
  rw [show kitB "str" "tuple" = some false by decide +kernel]
  rfl
@[simp] theorem isi_t_t {ts : List T} : gIsi "tuple" (.tup ts) = some (.bl true) := by
  show (kitB "tuple" "tuple").map T.bl = _
  rw [show kitB "tuple" "tuple" = some true by decide +kernel]
  rfl
@[simp] theorem isi_t_l {ts : List T} : gIsi "tuple" (.lst ts) = some (.bl false) := by
  show (kitB "list" "tuple").map T.bl = _
  rw [show kitB "list" "tuple" = some false by decide +kernel]
  rfl
@[simp] theorem isi_t_n  : gIsi "tuple" .non = some (.bl false) := by
  show (kitB "NoneType" "tuple").map T.bl = _
  rw [show kitB "NoneType" "tuple" = some false by decide +kernel]
  rfl
@[simp] theorem isi_t_d {ts us : List T} : gIsi "tuple" (.dct ts us) = some (.bl false) := by
  show (kitB "dict" "tuple").map T.bl = _
  rw [show kitB "dict" "tuple" = some false by decide +kernel]
  rfl
@[simp] theorem isi_l_i {i : Int} : gIsi "list" (.int i) = some (.bl false) := by
  show (kitB "int" "list").map T.bl = _
  rw [show kitB "int" "list" = some false by decide +kernel]
  rfl
@[simp] theorem isi_l_b {b : Bool} : gIsi "list" (.bl b) = some (.bl false) := by
  show (kitB "bool" "list").map T.bl = _
  rw [show kitB "bool" "list" = some false by decide +kernel]
  rfl
@[simp] theorem isi_l_s {x : Str} : gIsi "list" (.str x) = some (.bl false) := by
  show (kitB "str" "list").map T.bl = _
  rw [show kitB "str" "list" = some false by decide +kernel]
  rfl
@[simp] theorem isi_l_t {ts : List T} : gIsi "list" (.tup ts) = some (.bl false) := by
  show (kitB "tuple" "list").map T.bl = _
  rw [show kitB "tuple" "list" = some false by decide +kernel]
  rfl
@[simp] theorem isi_l_l {ts : List T} : gIsi "list" (.lst ts) = some (.bl true) := by
  show (kitB "list" "list").map T.bl = _
  rw [show kitB "list" "list" = some true by decide +kernel]
  rfl
@[simp] theorem isi_l_n  : gIsi "list" .non = some (.bl false) := by
  show (kitB "NoneType" "list").map T.bl = _
  rw [show kitB "NoneType" "list" = some false by decide +kernel]
  rfl
@[simp] theorem isi_l_d {ts us : List T} : gIsi "list" (.dct ts us) = some (.bl false) := by
  show (kitB "dict" "list").map T.bl = _
  rw [show kitB "dict" "list" = some false by decide +kernel]
  rfl
@[simp] theorem isT_nn : isT .non .non = some true := rfl
@[simp] theorem isT_in {i : Int} : isT (.int i) .non = some false := rfl
@[simp] theorem isT_bn {b : Bool} : isT (.bl b) .non = some false := rfl
@[simp] theorem isT_sn {x : Str} : isT (.str x) .non = some false := rfl
@[simp] theorem isT_tn {ts : List T} : isT (.tup ts) .non = some false := rfl
@[simp] theorem isT_ln {ts : List T} : isT (.lst ts) .non = some false := rfl
@[simp] theorem isT_bb {a b : Bool} : isT (.bl a) (.bl b) = some (a == b) := rfl
@[simp] theorem isT_nb {b : Bool} : isT .non (.bl b) = some false := rfl
@[simp] theorem isT_ib {i : Int} {b : Bool} : isT (.int i) (.bl b) = some false := rfl
@[simp] theorem isT_sb {x : Str} {b : Bool} : isT (.str x) (.bl b) = some false := rfl
@[simp] theorem isT_tb {ts : List T} {b : Bool} : isT (.tup ts) (.bl b) = some false := rfl
@[simp] theorem isT_lb {ts : List T} {b : Bool} : isT (.lst ts) (.bl b) = some false := rfl
/-! ### equality -/
theorem eqT_tup {ts us : List T} : eqT (.tup ts) (.tup us) = PyData.eqvAll (toDs ts) (toDs us) := by
  simp [eqT, toD, PyData.eqv]
theorem eqT_lst {ts us : List T} : eqT (.lst ts) (.lst us) = PyData.eqvAll (toDs ts) (toDs us) := by
  simp [eqT, toD, PyData.eqv]
@[simp] theorem eqAll_nil : PyData.eqvAll (toDs []) (toDs []) = true := by simp [toDs, PyData.eqvAll]
@[simp] theorem eqAll_cons {t u : T} {ts us : List T} : PyData.eqvAll (toDs (t :: ts)) (toDs (u :: us)) = (eqT t u && PyData.eqvAll (toDs ts) (toDs us)) := by simp [toDs, PyData.eqvAll, eqT]
mutual
theorem eqT_refl : ∀ (n : Nat) (t : T), okN n t = true → eqT t t = true
  | _, .non, _ => by simp [eqT, toD, PyData.eqv]
  | _, .bl b, _ => by simp [eqT, toD, PyData.eqv]
  | _, .int i, _ => by simp [eqT_int]
  | _, .str x, _ => by simp [eqT, toD, PyData.eqv]
  | n + 1, .lst ts, h => by
    rw [eqT_lst]
    exact eqTs_refl n ts (by simpa [okN] using h)
  | n + 1, .tup ts, h => by
    rw [eqT_tup]
    exact eqTs_refl n ts (by simpa [okN] using h)
  | 0, .lst _, h => by simp [okN] at h
  | 0, .tup _, h => by simp [okN] at h
  | _, .dct _ _, h => by simp [okN] at h
  | _, .old _, h => by simp [okN] at h
theorem eqTs_refl : ∀ (n : Nat) (ts : List T), (∀ t ∈ ts, okN n t = true) → PyData.eqvAll (toDs ts) (toDs ts) = true
  | _, [], _ => eqAll_nil
  | n, t :: ts, h => by
    rw [eqAll_cons, eqT_refl n t (h t (List.mem_cons_self ..)), eqTs_refl n ts fun u hu => h u (List.mem_cons_of_mem _ hu)]
    rfl
end
theorem okN_mono : ∀ {n : Nat} {t : T}, okN n t = true → okN (n + 1) t = true
  | _, .non, _ => rfl
  | _, .bl _, _ => rfl
  | _, .int _, _ => rfl
  | _, .str _, h => by simpa [okN] using h
  | n + 1, .lst ts, h => by
    simp only [okN, List.all_eq_true] at h ⊢
    exact fun t ht => okN_mono (h t ht)
  | n + 1, .tup ts, h => by
    simp only [okN, List.all_eq_true] at h ⊢
    exact fun t ht => okN_mono (h t ht)
  | 0, .lst _, h => by simp [okN] at h
  | 0, .tup _, h => by simp [okN] at h
  | _, .dct _ _, h => by simp [okN] at h
  | _, .old _, h => by simp [okN] at h
theorem okN_le {n m : Nat} {t : T} (h : okN n t = true) (hm : n ≤ m) : okN m t = true := by
  induction hm with
  | refl => exact h
  | step _ ih => exact okN_mono ih
/-- data that two of one kind may be told the same of -/
def okS : Nat → T → Bool
  | _, .non => true
  | _, .bl _ => true
  | _, .int _ => true
  | _, .str x => PySem.PyData.strOk x
  | n + 1, .lst ts => decide (ts.length < 1000000000) && ts.all (okS n)
  | n + 1, .tup ts => decide (ts.length < 1000000000) && ts.all (okS n)
  | _, _ => false
end Tw

namespace LawP
open Tw L2
/-! _law_mixed(number, place): 0 number, 1 place, 2 first, 3 second, 4 third; changed []; new False -/
noncomputable def F__law_mixed : Fs :=
  (sSeq (sAsg 2 (eBin gMod (eCall gInt (aCons (eBin gAdd (eBin gAdd (eBin gMul (eVar 0) (eLit (.int 48271))) (eBin gMul (eVar 1) (eLit (.int 69621)))) (eLit (.int 11))) aNil)) (eLit (.int 618970019642690137449562111)))) (sSeq (sAsg 3 (eBin gMod (eCall gInt (aCons (eBin gAdd (eBin gAdd (eBin gMul (eVar 2) (eVar 2)) (eBin gMul (eLit (.int 7)) (eVar 2))) (eVar 1)) aNil)) (eLit (.int 162259276829213363391578010288127)))) (sSeq (sAsg 4 (eBin gMod (eCall gInt (aCons (eBin gAdd (eBin gMul (eVar 3) (eVar 3)) (eVar 2)) aNil)) (eLit (.int 618970019642690137449562111)))) (sRet (eBin gAdd (eBin gMul (eVar 3) (eLit (.int 618970019642690137449562111))) (eVar 4))))))
noncomputable def sem__law_mixed : Sem' := semOf 5 [] F__law_mixed
/-! _law_rest(script, place, fills): 0 script, 1 place, 2 fills, 3 number; changed []; new False -/
noncomputable def F__law_rest : Fs :=
  (sSeq (sAsg 3 (eLit (.int 0))) (sSeq (sIf (tOf (eBin gGt (eCall gLen (aCons (eVar 0) aNil)) (eLit (.int 0)))) (sSeq (sAsg 3 (eCall gInt (aCons (eBin gIx (eVar 0) (eBin gMod (eCall gInt (aCons (eVar 1) aNil)) (eCall gLen (aCons (eVar 0) aNil)))) aNil))) sNx) sNx) (sSeq (sIf (tOf (eBin gLt (eVar 3) (eLit (.int 0)))) (sSeq (sAsg 3 (eBin gSub (eLit (.int 1)) (eBin gMul (eLit (.int 2)) (eVar 3)))) sNx) sNx) (sSeq (sIf (tAndT (tOf (eBin gEq (eVar 2) (eLit (.int 0)))) (tAndT (tOf (eBin gLt (eVar 1) (eCall gLen (aCons (eVar 0) aNil)))) (tOf (eBin gGe (eVar 3) (eBin gPow (eLit (.int 10)) (eLit (.int 18))))))) (sRet (eBin gSub (eVar 3) (eBin gPow (eLit (.int 10)) (eLit (.int 18))))) sNx) (sRet (eOwn sem__law_mixed [] (aCons (eBin gAdd (eVar 3) (eBin gMul (eVar 2) (eLit (.int 1000003)))) (aCons (eVar 1) aNil))))))))
noncomputable def sem__law_rest : Sem' := semOf 4 [] F__law_rest
/-! _law_pool(script): 0 script; changed []; new True -/
noncomputable def F__law_pool : Fs :=
  (sRet (eLst (aCons (eVar 0) (aCons (eLit (.int 0)) (aCons (eOwn sem__law_rest [] (aCons (eVar 0) (aCons (eLit (.int 0)) (aCons (eLit (.int 0)) aNil)))) (aCons (eLit (.int 0)) aNil))))))
noncomputable def sem__law_pool : Sem' := semOf 1 [] F__law_pool
/-! _law_next(pool): 0 pool; changed [0]; new False -/
noncomputable def F__law_next : Fs :=
  (sSeq (sSetI 0 (eBin gAdd (eBin gIx (eVar 0) (eLit (.int 1))) (eLit (.int 1))) (eLit (.int 1))) (sSeq (sSetI 0 (eOwn sem__law_rest [] (aCons (eBin gIx (eVar 0) (eLit (.int 0))) (aCons (eBin gIx (eVar 0) (eLit (.int 1))) (aCons (eLit (.int 0)) aNil)))) (eLit (.int 2))) (sSeq (sSetI 0 (eLit (.int 0)) (eLit (.int 3))) sNx)))
noncomputable def sem__law_next : Sem' := semOf 1 [0] F__law_next
/-! _law_draw(pool, limit): 0 pool, 1 limit, 2 value; changed [0]; new False -/
noncomputable def F__law_draw : Fs :=
  (sSeq (sIf (tOf (eBin gLe (eBin gIx (eVar 0) (eLit (.int 2))) (eLit (.int 1)))) (sSeq (sSetI 0 (eBin gAdd (eBin gIx (eVar 0) (eLit (.int 3))) (eLit (.int 1))) (eLit (.int 3))) (sSeq (sSetI 0 (eOwn sem__law_rest [] (aCons (eBin gIx (eVar 0) (eLit (.int 0))) (aCons (eBin gIx (eVar 0) (eLit (.int 1))) (aCons (eBin gIx (eVar 0) (eLit (.int 3))) aNil)))) (eLit (.int 2))) sNx)) sNx) (sSeq (sAsg 2 (eBin gMod (eCall gInt (aCons (eBin gIx (eVar 0) (eLit (.int 2))) aNil)) (eVar 1))) (sSeq (sSetI 0 (eBin gDiv (eCall gInt (aCons (eBin gIx (eVar 0) (eLit (.int 2))) aNil)) (eVar 1)) (eLit (.int 2))) (sRet (eVar 2)))))
noncomputable def sem__law_draw : Sem' := semOf 3 [0] F__law_draw
/-! _law_pick(pool, options): 0 pool, 1 options; changed [0]; new False -/
noncomputable def F__law_pick : Fs :=
  (sRet (eBin gIx (eVar 1) (eOwn sem__law_draw [0] (aIo 0 (aCons (eCall gLen (aCons (eVar 1) aNil)) aNil)))))
noncomputable def sem__law_pick : Sem' := semOf 2 [0] F__law_pick
/-! _law_same(answer, due): 0 answer, 1 due, 2 key, 3 k; changed []; new False -/
noncomputable def F__law_same (self : Sem') : Fs :=
  (sSeq (sIf (tOrT (tOf (eBin gIs (eVar 1) (eLit .non))) (tOrT (tOf (eBin gIs (eVar 1) (eLit (.bl true)))) (tOf (eBin gIs (eVar 1) (eLit (.bl false)))))) (sRet (eOr (eAnd (eBin gIs (eVar 1) (eLit .non)) (eBin gIs (eVar 0) (eLit .non))) (eOr (eAnd (eBin gIs (eVar 1) (eLit (.bl true))) (eBin gIs (eVar 0) (eLit (.bl true)))) (eAnd (eBin gIs (eVar 1) (eLit (.bl false))) (eBin gIs (eVar 0) (eLit (.bl false))))))) sNx) (sSeq (sIf (tTru (eUn (gIsi "int") (eVar 1))) (sRet (eAnd (eUn (gIsi "int") (eVar 0)) (eAnd (eNot (eUn (gIsi "bool") (eVar 0))) (eBin gEq (eVar 0) (eVar 1))))) sNx) (sSeq (sIf (tTru (eUn (gIsi "str") (eVar 1))) (sRet (eAnd (eUn (gIsi "str") (eVar 0)) (eBin gEq (eVar 0) (eVar 1)))) sNx) (sSeq (sIf (tTru (eUn (gIsi "dict") (eVar 1))) (sSeq (sIf (tOrT (tNotT (tTru (eUn (gIsi "dict") (eVar 0)))) (tOf (eBin gNe (eCall gLen (aCons (eVar 0) aNil)) (eCall gLen (aCons (eVar 1) aNil))))) (sRet (eLit (.bl false))) sNx) (sSeq (sFor (iSeq (eVar 1)) (tgN 2) (sSeq (sIf (tOrT (tOf (eBin gNotIn (eVar 2) (eVar 0))) (tNotT (tTru (eOwn self [] (aCons (eBin gIx (eVar 0) (eVar 2)) (aCons (eBin gIx (eVar 1) (eVar 2)) aNil)))))) (sRet (eLit (.bl false))) sNx) (sKill 2 sNx))) (sRet (eLit (.bl true))))) sNx) (sSeq (sIf (tAndT (tTru (eUn (gIsi "tuple") (eVar 1))) (tNotT (tTru (eUn (gIsi "tuple") (eVar 0))))) (sRet (eLit (.bl false))) sNx) (sSeq (sIf (tAndT (tTru (eUn (gIsi "list") (eVar 1))) (tNotT (tTru (eUn (gIsi "list") (eVar 0))))) (sRet (eLit (.bl false))) sNx) (sSeq (sIf (tOf (eBin gNe (eCall gLen (aCons (eVar 0) aNil)) (eCall gLen (aCons (eVar 1) aNil)))) (sRet (eLit (.bl false))) sNx) (sSeq (sFor (iR1 (aCons (eCall gLen (aCons (eVar 1) aNil)) aNil)) (tgN 3) (sSeq (sIf (tNotT (tTru (eOwn self [] (aCons (eBin gIx (eVar 0) (eVar 3)) (aCons (eBin gIx (eVar 1) (eVar 3)) aNil))))) (sRet (eLit (.bl false))) sNx) (sKill 3 sNx))) (sRet (eLit (.bl true)))))))))))
noncomputable def semR__law_same : Nat → Sem'
  | 0 => fun _ => none
  | n + 1 => semOf 4 [] (F__law_same (semR__law_same n))
noncomputable abbrev sem__law_same : Sem' := semR__law_same 8
/-! _law_gcd(one, other): 0 one, 1 other, 2 k; changed []; new False -/
noncomputable def F__law_gcd : Fs :=
  (sSeq (sFor (iR1 (aCons (eLit (.int 20000)) aNil)) (tgN 2) (sSeq (sIf (tOf (eBin gEq (eVar 1) (eLit (.int 0)))) (sKill 2 sBrk) sNx) (sSeq (sPar 0 1 (aCons (eVar 1) (aCons (eBin gMod (eCall gInt (aCons (eVar 0) aNil)) (eVar 1)) aNil))) (sKill 2 sNx)))) (sRet (eVar 0)))
noncomputable def sem__law_gcd : Sem' := semOf 3 [] F__law_gcd
/-! _law_ratio(p, q): 0 p, 1 q, 2 shared; changed []; new False -/
noncomputable def F__law_ratio : Fs :=
  (sSeq (sIf (tOf (eBin gLt (eVar 1) (eLit (.int 0)))) (sSeq (sPar 0 1 (aCons (eUn gNeg (eVar 0)) (aCons (eUn gNeg (eVar 1)) aNil))) sNx) sNx) (sSeq (sAsg 2 (eOwn sem__law_gcd [] (aCons (eCall gAbs (aCons (eVar 0) aNil)) (aCons (eVar 1) aNil)))) (sRet (eTup (aCons (eBin gDiv (eVar 0) (eVar 2)) (aCons (eBin gDiv (eVar 1) (eVar 2)) aNil))))))
noncomputable def sem__law_ratio : Sem' := semOf 3 [] F__law_ratio
theorem mixed_spec (number place : Int) : ∃ v : Int, sem__law_mixed [.int number, .int place] = some (.int v, []) ∧ 0 ≤ v := by
  obtain ⟨a1, a2⟩ := fmod_lt (i := number * 48271 + place * 69621 + 11) (M := 618970019642690137449562111) (by decide)
  generalize hf : (number * 48271 + place * 69621 + 11).fmod 618970019642690137449562111 = first at a1 a2
  obtain ⟨b1, b2⟩ := fmod_lt (i := first * first + 7 * first + place) (M := 162259276829213363391578010288127) (by decide)
  generalize hs : (first * first + 7 * first + place).fmod 162259276829213363391578010288127 = second at b1 b2
  obtain ⟨c1, c2⟩ := fmod_lt (i := second * second + first) (M := 618970019642690137449562111) (by decide)
  generalize ht : (second * second + first).fmod 618970019642690137449562111 = third at c1 c2
  have m1 : okMul number 48271 = true := okMul_r (by decide)
  have m2 : okMul place 69621 = true := okMul_r (by decide)
  have f1 : first.natAbs < 2 ^ 100 := by omega
  have f2 : second.natAbs < 2 ^ 120 := by omega
  have m3 : okMul first first = true := okMul_of f1 f1 (by decide)
  have m4 : okMul 7 first = true := okMul_of (n := 10) (by decide) f1 (by decide)
  have m5 : okMul second second = true := okMul_of f2 f2 (by decide)
  have m6 : okMul second 618970019642690137449562111 = true := okMul_of (m := 100) f2 (by decide) (by decide)
  refine ⟨second * 618970019642690137449562111 + third, ?_, ?_⟩
  · simp [sem__law_mixed, F__law_mixed, semOf, m1, m2, m3, m4, m5, m6, hf, hs, ht]
  · have : 0 ≤ second * 618970019642690137449562111 := Int.mul_nonneg b1 (by decide)
    omega
def scr (ns : List Int) : T := .old (ns.map T.int)
theorem scr_at {ns : List Int} {i : Int} (h0 : 0 ≤ i) (h1 : i < ns.length) : ∃ v : Int, atI (ns.map T.int) i = some (T.int v) := by
  obtain ⟨j, rfl⟩ := Int.eq_ofNat_of_zero_le h0
  have hj : j < ns.length := by omega
  refine ⟨ns[j], atI_nat (j := j) ?_⟩
  simp [hj]
theorem gPow18 : gPow (.int 10) (.int 18) = some (.int 1000000000000000000) := by simp
theorem rest_spec (ns : List Int) (place fills : Int) : ∃ v : Int, sem__law_rest [scr ns, .int place, .int fills] = some (.int v, []) ∧ 0 ≤ v := by
  unfold sem__law_rest F__law_rest semOf
  simp only [List.map_cons, List.map_nil, List.length_cons, List.length_nil, List.replicate, List.cons_append, List.nil_append]
  -- the number
  obtain ⟨n0, e0⟩ : ∃ n0 : Int, (sIf (tOf (eBin gGt (eCall gLen (aCons (eVar 0) aNil)) (eLit (.int 0)))) (sSeq (sAsg 3 (eCall gInt (aCons (eBin gIx (eVar 0) (eBin gMod (eCall gInt (aCons (eVar 1) aNil)) (eCall gLen (aCons (eVar 0) aNil)))) aNil))) sNx) sNx)
      [some (scr ns), some (.int place), some (.int fills), some (.int 0)] = some (.nx [some (scr ns), some (.int place), some (.int fills), some (.int n0)]) := by
    by_cases h0 : ns = []
    · subst h0
      exact ⟨0, by simp [scr]⟩
    · have hp := List.length_pos_iff.mpr h0
      have hl : 0 < (ns.length : Int) := by omega
      have hz : (ns.length : Int) ≠ 0 := by omega
      obtain ⟨x, hx⟩ := scr_at (ns := ns) (i := place.fmod ns.length) (fmod_lt hl).1 (fmod_lt hl).2
      exact ⟨x, by simp [scr, hx, hp, h0]⟩
  have m2 : okMul 2 n0 = true := by unfold okMul; simp
  obtain ⟨n1, e1, p1⟩ : ∃ n1 : Int, (sIf (tOf (eBin gLt (eVar 3) (eLit (.int 0)))) (sSeq (sAsg 3 (eBin gSub (eLit (.int 1)) (eBin gMul (eLit (.int 2)) (eVar 3)))) sNx) sNx)
      [some (scr ns), some (.int place), some (.int fills), some (.int n0)] = some (.nx [some (scr ns), some (.int place), some (.int fills), some (.int n1)]) ∧ 0 ≤ n1 := by
    by_cases h : n0 < 0
    · exact ⟨1 - 2 * n0, by simp [h, m2], by omega⟩
    · exact ⟨n0, by simp [h], by omega⟩
  rw [sSeq_nx (γ' := [some (scr ns), some (.int place), some (.int fills), some (.int 0)]) (by simp), sSeq_nx e0, sSeq_nx e1]
  obtain ⟨v, h1, h2⟩ := mixed_spec (n1 + fills * 1000003) place
  have m1 : okMul fills 1000003 = true := okMul_r (by decide)
  by_cases c : fills = 0 ∧ place < ns.length ∧ 1000000000000000000 ≤ n1
  · obtain ⟨c1, c2, c3⟩ := c
    exact ⟨n1 - 1000000000000000000, by simp [c1, c2, c3, scr], by omega⟩
  · refine ⟨v, ?_, h2⟩
    rw [sSeq_nx (γ' := [some (scr ns), some (.int place), some (.int fills), some (.int n1)])]
    · simp [m1, h1]
    · by_cases c1 : fills = 0
      · by_cases c2 : place < ns.length
        · have c3 : ¬ 1000000000000000000 ≤ n1 := fun h => c ⟨c1, c2, h⟩
          simp [c1, c2, c3, scr]
        · simp [c1, c2, scr]
      · simp [c1]
/-- a pool -/
def Pool (ns : List Int) (p : T) : Prop := ∃ place rest fills : Int, p = .lst [scr ns, .int place, .int rest, .int fills] ∧ 0 ≤ rest
theorem pool_spec (ns : List Int) : ∃ p, sem__law_pool [scr ns] = some (p, []) ∧ Pool ns p := by
  obtain ⟨v, h1, h2⟩ := rest_spec ns 0 0
  exact ⟨_, by simp [sem__law_pool, F__law_pool, semOf, h1, PySem.sizeLine], 0, v, 0, rfl, h2⟩
theorem ixN4 (i : Nat) (h : i < 4) : ixN 4 (i : Nat) = some i := by
  unfold ixN
  simp
  omega
theorem next_spec {ns : List Int} {p : T} (h : Pool ns p) : ∃ p', sem__law_next [p] = some (.non, [p']) ∧ Pool ns p' := by
  obtain ⟨place, rest, fills, rfl, h0⟩ := h
  obtain ⟨v, h1, h2⟩ := rest_spec ns (place + 1) 0
  refine ⟨.lst [scr ns, .int (place + 1), .int v, .int 0], ?_, place + 1, v, 0, rfl, h2⟩
  have a1 := ixN4 1 (by decide)
  have a2 := ixN4 2 (by decide)
  have a3 := ixN4 3 (by decide)
  simp [sem__law_next, F__law_next, semOf, h1] at a1 a2 a3 ⊢
  simp [a1, a2, a3, h1]
theorem draw_spec {ns : List Int} {p : T} (h : Pool ns p) {n : Int} (hn : 0 < n) (hb : n < 2 ^ 64) : ∃ (v : Int) (p' : T), sem__law_draw [p, .int n] = some (.int v, [p']) ∧ Pool ns p' ∧ 0 ≤ v ∧ v < n := by
  obtain ⟨place, rest, fills, rfl, h0⟩ := h
  have hz : n ≠ 0 := by omega
  have hd : okDiv n = true := okDiv_of (m := 64) hz (by omega) (by decide)
  have a1 := ixN4 1 (by decide)
  have a2 := ixN4 2 (by decide)
  have a3 := ixN4 3 (by decide)
  by_cases c : rest ≤ 1
  · obtain ⟨v, h1, h2⟩ := rest_spec ns place (fills + 1)
    refine ⟨v.fmod n, .lst [scr ns, .int place, .int (v.fdiv n), .int (fills + 1)], ?_, ⟨place, v.fdiv n, fills + 1, rfl, Int.fdiv_nonneg h2 (by omega)⟩, (fmod_lt hn).1, (fmod_lt hn).2⟩
    simp at a1 a2 a3
    simp [sem__law_draw, F__law_draw, semOf, h1, a1, a2, a3, c, hz, hd]
  · refine ⟨rest.fmod n, .lst [scr ns, .int place, .int (rest.fdiv n), .int fills], ?_, ⟨place, rest.fdiv n, fills, rfl, Int.fdiv_nonneg h0 (by omega)⟩, (fmod_lt hn).1, (fmod_lt hn).2⟩
    simp at a1 a2 a3
    simp [sem__law_draw, F__law_draw, semOf, a1, a2, a3, c, hz, hd]
theorem pick_spec {ns : List Int} {p : T} (h : Pool ns p) {ts : List T} (hn : ts ≠ []) (hb : ts.length < 2 ^ 64) : ∃ (v : T) (p' : T), sem__law_pick [p, .lst ts] = some (v, [p']) ∧ Pool ns p' ∧ v ∈ ts := by
  have hp := List.length_pos_iff.mpr hn
  obtain ⟨v, p', h1, h2, h3, h4⟩ := draw_spec h (n := (ts.length : Int)) (by omega) (by omega)
  obtain ⟨j, rfl⟩ := Int.eq_ofNat_of_zero_le h3
  have hj : j < ts.length := by omega
  refine ⟨ts[j], p', ?_, h2, List.getElem_mem hj⟩
  have e : atI ts (j : Int) = some ts[j] := atI_nat (by simp [hj])
  simp [sem__law_pick, F__law_pick, semOf, h1, e]

theorem same_str (n : Nat) (x : PySem.Str) (h : PySem.PyData.strOk x = true) : semR__law_same (n + 1) [.str x, .str x] = some (.bl true, []) := by
  have h1 : gEq (.str x) (.str x) = some (.bl true) := by
    unfold gEq
    rw [show okT (.str x) = true from by simpa [okT, okN, okS] using h, eqT_refl 60 (.str x) (by simpa [okN, okS] using h)]
    rfl
  simp [semR__law_same, F__law_same, semOf, h1]
abbrev sameF (self : Sem') : Fs := (sSeq (sIf (tNotT (tTru (eOwn self [] (aCons (eBin gIx (eVar 0) (eVar 3)) (aCons (eBin gIx (eVar 1) (eVar 3)) aNil))))) (sRet (eLit (.bl false))) sNx) (sKill 3 sNx))
theorem same_loopL {self : Sem'} {ts : List T} (ih : ∀ t ∈ ts, self [t, t] = some (.bl true, [])) : forL (tgN 3) (sameF self) (rngT 0 ts.length) [some (.lst ts), some (.lst ts), none, none] = some (.nx [some (.lst ts), some (.lst ts), none, none]) := by
  refine forL_all fun t ht => ?_
  obtain ⟨k, hk, rfl⟩ := rngT_mem ht
  have e : atI ts (k : Int) = some ts[k] := atI_nat (by simp [hk])
  have r := ih ts[k] (List.getElem_mem hk)
  exact ⟨_, r_tgN, by simp [e, r]⟩
theorem same_loopT {self : Sem'} {ts : List T} (ih : ∀ t ∈ ts, self [t, t] = some (.bl true, [])) : forL (tgN 3) (sameF self) (rngT 0 ts.length) [some (.tup ts), some (.tup ts), none, none] = some (.nx [some (.tup ts), some (.tup ts), none, none]) := by
  refine forL_all fun t ht => ?_
  obtain ⟨k, hk, rfl⟩ := rngT_mem ht
  have e : atI ts (k : Int) = some ts[k] := atI_nat (by simp [hk])
  have r := ih ts[k] (List.getElem_mem hk)
  exact ⟨_, r_tgN, by simp [e, r]⟩
theorem ir1_len {ts : List T} {a : Ax} {γ γ' : En} (h : ts.length < 1000000000) (ha : a γ = some ([.int (ts.length : Nat)], γ')) : iR1 a γ = some (rngT 0 ts.length, γ') := by
  unfold iR1
  rw [ha]
  simp only
  rw [if_pos (by omega)]
  rfl
theorem same_lst {self : Sem'} {ts : List T} (hl : ts.length < 1000000000) (ih : ∀ t ∈ ts, self [t, t] = some (.bl true, [])) : semOf 4 [] (F__law_same self) [.lst ts, .lst ts] = some (.bl true, []) := by
  have lp := same_loopL ih
  have hr : iR1 (aCons (eCall gLen (aCons (eVar 1) aNil)) aNil) [some (.lst ts), some (.lst ts), none, none] = some (rngT 0 ts.length, [some (.lst ts), some (.lst ts), none, none]) := ir1_len hl (by simp)
  have hf : sFor (iR1 (aCons (eCall gLen (aCons (eVar 1) aNil)) aNil)) (tgN 3) (sameF self) [some (.lst ts), some (.lst ts), none, none] = some (.nx [some (.lst ts), some (.lst ts), none, none]) := by
    rw [r_for, hr]
    exact lp
  refine semOf_rt (γ := [some (.lst ts), some (.lst ts), none, none]) (γ' := [some (.lst ts), some (.lst ts), none, none]) rfl ?_
  unfold F__law_same
  rw [sIf_no (γ' := [some (.lst ts), some (.lst ts), none, none]) (by simp), sIf_no (γ' := [some (.lst ts), some (.lst ts), none, none]) (by simp), sIf_no (γ' := [some (.lst ts), some (.lst ts), none, none]) (by simp), sIf_no (γ' := [some (.lst ts), some (.lst ts), none, none]) (by simp), sIf_no (γ' := [some (.lst ts), some (.lst ts), none, none]) (by simp), sIf_no (γ' := [some (.lst ts), some (.lst ts), none, none]) (by simp), sIf_no (γ' := [some (.lst ts), some (.lst ts), none, none]) (by simp), sSeq_nx hf]
  simp
theorem same_tup {self : Sem'} {ts : List T} (hl : ts.length < 1000000000) (ih : ∀ t ∈ ts, self [t, t] = some (.bl true, [])) : semOf 4 [] (F__law_same self) [.tup ts, .tup ts] = some (.bl true, []) := by
  have lp := same_loopT ih
  have hr : iR1 (aCons (eCall gLen (aCons (eVar 1) aNil)) aNil) [some (.tup ts), some (.tup ts), none, none] = some (rngT 0 ts.length, [some (.tup ts), some (.tup ts), none, none]) := ir1_len hl (by simp)
  have hf : sFor (iR1 (aCons (eCall gLen (aCons (eVar 1) aNil)) aNil)) (tgN 3) (sameF self) [some (.tup ts), some (.tup ts), none, none] = some (.nx [some (.tup ts), some (.tup ts), none, none]) := by
    rw [r_for, hr]
    exact lp
  refine semOf_rt (γ := [some (.tup ts), some (.tup ts), none, none]) (γ' := [some (.tup ts), some (.tup ts), none, none]) rfl ?_
  unfold F__law_same
  rw [sIf_no (γ' := [some (.tup ts), some (.tup ts), none, none]) (by simp), sIf_no (γ' := [some (.tup ts), some (.tup ts), none, none]) (by simp), sIf_no (γ' := [some (.tup ts), some (.tup ts), none, none]) (by simp), sIf_no (γ' := [some (.tup ts), some (.tup ts), none, none]) (by simp), sIf_no (γ' := [some (.tup ts), some (.tup ts), none, none]) (by simp), sIf_no (γ' := [some (.tup ts), some (.tup ts), none, none]) (by simp), sIf_no (γ' := [some (.tup ts), some (.tup ts), none, none]) (by simp), sSeq_nx hf]
  simp
theorem same_self (n : Nat) : ∀ (t : T), okS n t = true → semR__law_same (n + 1) [t, t] = some (.bl true, []) := by
  induction n with
  | zero =>
    intro t h
    cases t with
    | non => simp [semR__law_same, F__law_same, semOf]
    | bl b => cases b <;> simp [semR__law_same, F__law_same, semOf]
    | int i => simp [semR__law_same, F__law_same, semOf]
    | str x => exact same_str 0 x (by simpa [okS] using h)
    | lst ts => simp [okS] at h
    | tup ts => simp [okS] at h
    | dct ks vs => simp [okS] at h
    | old ts => simp [okS] at h
  | succ n ih =>
    intro t h
    cases t with
    | non => simp [semR__law_same, F__law_same, semOf]
    | bl b => cases b <;> simp [semR__law_same, F__law_same, semOf]
    | int i => simp [semR__law_same, F__law_same, semOf]
    | str x => exact same_str _ x (by simpa [okS] using h)
    | dct ks vs => simp [okS] at h
    | old ts => simp [okS] at h
    | lst ts =>
      simp only [okS, Bool.and_eq_true, decide_eq_true_eq, List.all_eq_true] at h
      exact same_lst h.1 fun t ht => ih t (h.2 t ht)
    | tup ts =>
      simp only [okS, Bool.and_eq_true, decide_eq_true_eq, List.all_eq_true] at h
      exact same_tup h.1 fun t ht => ih t (h.2 t ht)
/-- Euclid's steps -/
abbrev gcdF : Fs := (sSeq (sIf (tOf (eBin gEq (eVar 1) (eLit (.int 0)))) (sKill 2 sBrk) sNx) (sSeq (sPar 0 1 (aCons (eVar 1) (aCons (eBin gMod (eCall gInt (aCons (eVar 0) aNil)) (eVar 1)) aNil))) (sKill 2 sNx)))
theorem gcd_brk {t : T} {ts : List T} {a : Nat} {o : Option T} : forL (tgN 2) gcdF (t :: ts) [some (.int a), some (.int (0 : Nat)), o] = some (.nx [some (.int a), some (.int (0 : Nat)), none]) := by
  rw [forL_cons (γ1 := [some (.int a), some (.int (0 : Nat)), some t]) rfl]
  simp
theorem gcd_stp {t : T} {ts : List T} {a b : Nat} {o : Option T} (hb : b ≠ 0) : forL (tgN 2) gcdF (t :: ts) [some (.int a), some (.int b), o] = forL (tgN 2) gcdF ts [some (.int b), some (.int (a % b : Nat)), none] := by
  have e : (a : Int).fmod (b : Int) = ((a % b : Nat) : Int) := by
    rw [Int.fmod_eq_emod_of_nonneg _ (by omega)]
    rfl
  rw [forL_step (γ1 := [some (.int a), some (.int b), some t]) (γ2 := [some (.int b), some (.int (a % b : Nat)), none]) rfl]
  simp [hb, e]
theorem gcd_loop : ∀ (n : Nat) (ts : List T) (a b : Nat) (o : Option T), b < 2 ^ n → 2 * n + 1 ≤ ts.length → forL (tgN 2) gcdF ts [some (.int a), some (.int b), o] = some (.nx [some (.int (Nat.gcd a b : Nat)), some (.int (0 : Nat)), none])
  | 0, t :: ts, a, b, o, hb, _ => by
    have e : b = 0 := by omega
    subst e
    rw [gcd_brk, Nat.gcd_zero_right]
  | n + 1, t :: t2 :: ts, a, b, o, hb, hl => by
    by_cases h0 : b = 0
    · subst h0
      rw [gcd_brk, Nat.gcd_zero_right]
    · rw [gcd_stp h0, Nat.gcd_comm a b, Nat.gcd_rec b a]
      have hr := Nat.mod_lt a (Nat.pos_of_ne_zero h0)
      by_cases h1 : a % b = 0
      · rw [h1, gcd_brk, Nat.gcd_zero_left]
      · have h2 : b % (a % b) < 2 ^ n := by
          have h3 := Nat.mod_lt b (Nat.pos_of_ne_zero h1)
          have h4 := Nat.div_add_mod b (a % b)
          have h5 : 1 ≤ b / (a % b) := Nat.div_pos (by omega) (Nat.pos_of_ne_zero h1)
          have h6 : a % b ≤ (a % b) * (b / (a % b)) := Nat.le_mul_of_pos_right _ h5
          have h7 : 2 ^ (n + 1) = 2 * 2 ^ n := by rw [Nat.pow_succ, Nat.mul_comm]
          omega
        rw [gcd_stp h1, gcd_loop n ts (a % b) (b % (a % b)) none h2 (by simp at hl; omega)]
        rw [Nat.gcd_comm (a % b) (b % (a % b)), ← Nat.gcd_rec (a % b) b]
  | 0, [], _, _, _, _, hl => by simp at hl
  | n + 1, [], _, _, _, _, hl => by simp at hl
  | n + 1, [_], _, _, _, _, hl => by simp at hl
theorem gcd_spec (a b : Nat) {n : Nat} (hb : b < 2 ^ n) (hn : n ≤ 9000) : sem__law_gcd [.int a, .int b] = some (.int (Nat.gcd a b : Nat), []) := by
  have h := gcd_loop n (rngT 0 20000) a b none hb (by simp; omega)
  unfold sem__law_gcd F__law_gcd semOf
  simp at h ⊢
  rw [h]
  simp
/-- fractions in lowest terms -/
def qT (x : Rat) : T := .tup [.int x.num, .int x.den]
theorem rat_parts (p q : Int) (hq : 0 < q) : ((p : Rat) / q).num = p / (Int.gcd q p : Int) ∧ (((p : Rat) / q).den : Int) = q / (Int.gcd q p : Int) := by
  rw [← Rat.divInt_eq_div, Rat.num_divInt, Rat.den_divInt, if_neg (by omega), Int.sign_eq_one_of_pos hq, Int.one_mul]
  refine ⟨rfl, ?_⟩
  rw [Int.natCast_ediv]
  congr 1
  omega
theorem ratio_pos (p q : Int) (hq : 0 < q) {n : Nat} (hb : q.natAbs < 2 ^ n) (hn : n ≤ 9000) : sem__law_ratio [.int p, .int q] = some (qT ((p : Rat) / q), []) := by
  obtain ⟨h1, h2⟩ := rat_parts p q hq
  have hg := gcd_spec p.natAbs q.natAbs hb hn
  have ea : (p.natAbs : Int) = if p < 0 then -p else p := by split <;> omega
  have eq : (q.natAbs : Int) = q := by omega
  have eg : Nat.gcd p.natAbs q.natAbs = Int.gcd q p := by rw [Nat.gcd_comm]; rfl
  rw [ea, eq, eg] at hg
  have g0 : 0 < Int.gcd q p := Int.gcd_pos_of_ne_zero_left _ (by omega)
  have hgl : Int.gcd q p ≤ q.natAbs := Nat.gcd_le_left _ (by omega)
  have hd : okDiv (Int.gcd q p : Int) = true := okDiv_of (m := n) (by omega) (by omega) hn
  have c : ¬ q < 0 := by omega
  simp [sem__law_ratio, F__law_ratio, semOf, c, hg, hd, PySem.sizeLine, qT, h1, h2]
  exact ⟨Int.fdiv_eq_ediv_of_nonneg _ (by omega), Int.fdiv_eq_ediv_of_nonneg _ (by omega)⟩
theorem ratio_spec (p q : Int) (hq : q ≠ 0) {n : Nat} (hb : q.natAbs < 2 ^ n) (hn : n ≤ 9000) : sem__law_ratio [.int p, .int q] = some (qT ((p : Rat) / q), []) := by
  by_cases c : q < 0
  · have h := ratio_pos (-p) (-q) (by omega) (n := n) (by omega) hn
    have e : (((-p : Int) : Rat) / ((-q : Int) : Rat)) = (p : Rat) / q := by
      rw [Rat.intCast_neg, Rat.intCast_neg]
      grind
    rw [e] at h
    have c2 : ¬ -q < 0 := by omega
    have c3 : ¬ 0 < q := by omega
    rw [← h]
    unfold sem__law_ratio F__law_ratio semOf
    simp only [List.map_cons, List.map_nil, List.length_cons, List.length_nil, List.replicate, List.cons_append, List.nil_append]
    have a1 := sSeq_nx (F1 := sIf (tOf (eBin gLt (eVar 1) (eLit (.int 0)))) (sSeq (sPar 0 1 (aCons (eUn gNeg (eVar 0)) (aCons (eUn gNeg (eVar 1)) aNil))) sNx) sNx) (F2 := (sSeq (sAsg 2 (eOwn sem__law_gcd [] (aCons (eCall gAbs (aCons (eVar 0) aNil)) (aCons (eVar 1) aNil)))) (sRet (eTup (aCons (eBin gDiv (eVar 0) (eVar 2)) (aCons (eBin gDiv (eVar 1) (eVar 2)) aNil)))))) (γ := [some (.int p), some (.int q), none]) (γ' := [some (.int (-p)), some (.int (-q)), none]) (by simp [c])
    have a2 := sSeq_nx (F1 := sIf (tOf (eBin gLt (eVar 1) (eLit (.int 0)))) (sSeq (sPar 0 1 (aCons (eUn gNeg (eVar 0)) (aCons (eUn gNeg (eVar 1)) aNil))) sNx) sNx) (F2 := (sSeq (sAsg 2 (eOwn sem__law_gcd [] (aCons (eCall gAbs (aCons (eVar 0) aNil)) (aCons (eVar 1) aNil)))) (sRet (eTup (aCons (eBin gDiv (eVar 0) (eVar 2)) (aCons (eBin gDiv (eVar 1) (eVar 2)) aNil)))))) (γ := [some (.int (-p)), some (.int (-q)), none]) (γ' := [some (.int (-p)), some (.int (-q)), none]) (by simp [c3])
    rw [a1, a2]
  · exact ratio_pos p q (by omega) hb hn
/-- how great a fraction's parts may be -/
def Sz (n : Nat) (x : Rat) : Prop := x.num.natAbs < 2 ^ n ∧ x.den < 2 ^ n
theorem Sz.mono {n m : Nat} {x : Rat} (h : Sz n x) (hm : n ≤ m) : Sz m x := ⟨Nat.lt_of_lt_of_le h.1 (Nat.pow_le_pow_right (by decide) hm), Nat.lt_of_lt_of_le h.2 (Nat.pow_le_pow_right (by decide) hm)⟩
theorem Sz.div {p q : Int} {n : Nat} (h : p.natAbs < 2 ^ n) (h2 : q.natAbs < 2 ^ n) (h0 : q ≠ 0) : Sz n ((p : Rat) / q) := by
  rw [← Rat.divInt_eq_div]
  unfold Sz
  rw [Rat.num_divInt, Rat.den_divInt, if_neg h0]
  have g0 : 0 < Int.gcd q p := Int.gcd_pos_of_ne_zero_left _ h0
  refine ⟨?_, Nat.lt_of_le_of_lt (Nat.div_le_self _ _) h2⟩
  have : (q.sign * p / (Int.gcd q p : Int)).natAbs ≤ (q.sign * p).natAbs := Int.natAbs_ediv_le_natAbs _ _
  rw [Int.natAbs_mul] at this
  have h4 : q.sign.natAbs = 1 := Int.natAbs_sign_of_ne_zero h0
  rw [h4] at this
  omega
end LawP

namespace LawP
open Tw L2
/-! frac(p, q): 0 p, 1 q, 2 shared; changed []; new False -/
noncomputable def F_frac : Fs :=
  (sSeq (sAsg 2 (eIf (tOf (eBin gGt (eVar 1) (eLit (.int 0)))) (eCall gGcd (aCons (eVar 0) (aCons (eVar 1) aNil))) (eUn gNeg (eCall gGcd (aCons (eVar 0) (aCons (eVar 1) aNil)))))) (sRet (eTup (aCons (eBin gDiv (eVar 0) (eVar 2)) (aCons (eBin gDiv (eVar 1) (eVar 2)) aNil)))))
noncomputable def sem_frac : Sem' := semOf 3 [] F_frac
/-! plus(a, b): 0 a, 1 b; changed []; new False -/
noncomputable def F_plus : Fs :=
  (sRet (eOwn sem_frac [] (aCons (eBin gAdd (eBin gMul (eBin gIx (eVar 0) (eLit (.int 0))) (eBin gIx (eVar 1) (eLit (.int 1)))) (eBin gMul (eBin gIx (eVar 1) (eLit (.int 0))) (eBin gIx (eVar 0) (eLit (.int 1))))) (aCons (eBin gMul (eBin gIx (eVar 0) (eLit (.int 1))) (eBin gIx (eVar 1) (eLit (.int 1)))) aNil))))
noncomputable def sem_plus : Sem' := semOf 2 [] F_plus
/-! minus(a, b): 0 a, 1 b; changed []; new False -/
noncomputable def F_minus : Fs :=
  (sRet (eOwn sem_frac [] (aCons (eBin gSub (eBin gMul (eBin gIx (eVar 0) (eLit (.int 0))) (eBin gIx (eVar 1) (eLit (.int 1)))) (eBin gMul (eBin gIx (eVar 1) (eLit (.int 0))) (eBin gIx (eVar 0) (eLit (.int 1))))) (aCons (eBin gMul (eBin gIx (eVar 0) (eLit (.int 1))) (eBin gIx (eVar 1) (eLit (.int 1)))) aNil))))
noncomputable def sem_minus : Sem' := semOf 2 [] F_minus
/-! times(a, b): 0 a, 1 b; changed []; new False -/
noncomputable def F_times : Fs :=
  (sRet (eOwn sem_frac [] (aCons (eBin gMul (eBin gIx (eVar 0) (eLit (.int 0))) (eBin gIx (eVar 1) (eLit (.int 0)))) (aCons (eBin gMul (eBin gIx (eVar 0) (eLit (.int 1))) (eBin gIx (eVar 1) (eLit (.int 1)))) aNil))))
noncomputable def sem_times : Sem' := semOf 2 [] F_times
/-! over(a, b): 0 a, 1 b; changed []; new False -/
noncomputable def F_over : Fs :=
  (sRet (eOwn sem_frac [] (aCons (eBin gMul (eBin gIx (eVar 0) (eLit (.int 0))) (eBin gIx (eVar 1) (eLit (.int 1)))) (aCons (eBin gMul (eBin gIx (eVar 0) (eLit (.int 1))) (eBin gIx (eVar 1) (eLit (.int 0)))) aNil))))
noncomputable def sem_over : Sem' := semOf 2 [] F_over
/-! negative(a): 0 a; changed []; new False -/
noncomputable def F_negative : Fs :=
  (sRet (eTup (aCons (eUn gNeg (eBin gIx (eVar 0) (eLit (.int 0)))) (aCons (eBin gIx (eVar 0) (eLit (.int 1))) aNil))))
noncomputable def sem_negative : Sem' := semOf 1 [] F_negative
/-! _law_add(one, other): 0 one, 1 other; changed []; new False -/
noncomputable def F__law_add : Fs :=
  (sRet (eOwn sem__law_ratio [] (aCons (eBin gAdd (eBin gMul (eBin gIx (eVar 0) (eLit (.int 0))) (eBin gIx (eVar 1) (eLit (.int 1)))) (eBin gMul (eBin gIx (eVar 1) (eLit (.int 0))) (eBin gIx (eVar 0) (eLit (.int 1))))) (aCons (eBin gMul (eBin gIx (eVar 0) (eLit (.int 1))) (eBin gIx (eVar 1) (eLit (.int 1)))) aNil))))
noncomputable def sem__law_add : Sem' := semOf 2 [] F__law_add
/-! _law_sub(one, other): 0 one, 1 other; changed []; new False -/
noncomputable def F__law_sub : Fs :=
  (sRet (eOwn sem__law_ratio [] (aCons (eBin gSub (eBin gMul (eBin gIx (eVar 0) (eLit (.int 0))) (eBin gIx (eVar 1) (eLit (.int 1)))) (eBin gMul (eBin gIx (eVar 1) (eLit (.int 0))) (eBin gIx (eVar 0) (eLit (.int 1))))) (aCons (eBin gMul (eBin gIx (eVar 0) (eLit (.int 1))) (eBin gIx (eVar 1) (eLit (.int 1)))) aNil))))
noncomputable def sem__law_sub : Sem' := semOf 2 [] F__law_sub
/-! _law_mul(one, other): 0 one, 1 other; changed []; new False -/
noncomputable def F__law_mul : Fs :=
  (sRet (eOwn sem__law_ratio [] (aCons (eBin gMul (eBin gIx (eVar 0) (eLit (.int 0))) (eBin gIx (eVar 1) (eLit (.int 0)))) (aCons (eBin gMul (eBin gIx (eVar 0) (eLit (.int 1))) (eBin gIx (eVar 1) (eLit (.int 1)))) aNil))))
noncomputable def sem__law_mul : Sem' := semOf 2 [] F__law_mul
theorem fdiv_neg_exact {p g : Int} (hg : g ≠ 0) (h : g ∣ p) : p.fdiv (-g) = -(p / g) := by
  obtain ⟨k, rfl⟩ := h
  rw [Int.mul_ediv_cancel_left _ hg, show g * k = (-g) * (-k) by rw [Int.neg_mul_neg], Int.mul_fdiv_cancel_left _ (by omega)]
theorem frac_spec (p q : Int) (hq : q ≠ 0) {n : Nat} (hb : q.natAbs < 2 ^ n) (hn : n ≤ 9000) : sem_frac [.int p, .int q] = some (qT ((p : Rat) / q), []) := by
  have g0 : 0 < Int.gcd q p := Int.gcd_pos_of_ne_zero_left _ hq
  have hgl : Int.gcd q p ≤ q.natAbs := Nat.gcd_le_left _ (by omega)
  have eg : Nat.gcd p.natAbs q.natAbs = Int.gcd q p := by rw [Nat.gcd_comm]; rfl
  have hd : okDiv (Int.gcd q p : Int) = true := okDiv_of (m := n) (by omega) (by omega) hn
  have hd2 : okDiv (-(Int.gcd q p : Int)) = true := okDiv_of (m := n) (by omega) (by omega) hn
  by_cases c : 0 < q
  · obtain ⟨h1, h2⟩ := rat_parts p q c
    simp [sem_frac, F_frac, semOf, c, eg, hd, PySem.sizeLine, qT, h1, h2]
    exact ⟨Int.fdiv_eq_ediv_of_nonneg _ (by omega), Int.fdiv_eq_ediv_of_nonneg _ (by omega)⟩
  · have e : (((-p : Int) : Rat) / ((-q : Int) : Rat)) = (p : Rat) / q := by
      rw [Rat.intCast_neg, Rat.intCast_neg]
      grind
    obtain ⟨h1, h2⟩ := rat_parts (-p) (-q) (by omega)
    rw [e] at h1 h2
    have e2 : Int.gcd (-q) (-p) = Int.gcd q p := by rw [Int.gcd_neg, Int.neg_gcd]
    rw [e2] at h1 h2
    simp [sem_frac, F_frac, semOf, c, eg, hd2, PySem.sizeLine, qT, h1, h2]
    have d1 : (Int.gcd q p : Int) ∣ p := Int.gcd_dvd_right ..
    have d2 : (Int.gcd q p : Int) ∣ q := Int.gcd_dvd_left ..
    rw [fdiv_neg_exact (by omega) d1, fdiv_neg_exact (by omega) d2, Int.neg_ediv_of_dvd d1, Int.neg_ediv_of_dvd d2]
    exact ⟨rfl, rfl⟩
theorem rat_eq (a : Rat) : a = (a.num : Rat) / ((a.den : Int) : Rat) := by
  rw [← Rat.divInt_eq_div]
  exact (Rat.num_divInt_den a).symm
theorem den_ne (a : Rat) : ((a.den : Int) : Rat) ≠ 0 := by
  have := a.den_nz
  intro h
  have : (a.den : Int) = 0 := by exact_mod_cast h
  omega
theorem mul_pow {a b n m : Nat} (h : a < 2 ^ n) (h2 : b < 2 ^ m) : a * b < 2 ^ (n + m) := by
  rw [Nat.pow_add]
  exact Nat.mul_lt_mul'' h h2
theorem pow_mono {a n m : Nat} (h : a < 2 ^ n) (hm : n ≤ m) : a < 2 ^ m := Nat.lt_of_lt_of_le h (Nat.pow_le_pow_right (by decide) hm)
section
variable {a b : Rat} {n m : Nat}
theorem ok_nd (ha : Sz n a) (hb : Sz m b) (h : n + m + 1 ≤ 9000) : okMul a.num b.den = true := okMul_of (i := a.num) (j := (b.den : Int)) ha.1 (by simpa using hb.2) (by omega)
theorem ok_nn (ha : Sz n a) (hb : Sz m b) (h : n + m + 1 ≤ 9000) : okMul a.num b.num = true := okMul_of ha.1 hb.1 (by omega)
theorem ok_dd (ha : Sz n a) (hb : Sz m b) (h : n + m + 1 ≤ 9000) : okMul a.den b.den = true := okMul_of (i := (a.den : Int)) (j := (b.den : Int)) (by simpa using ha.2) (by simpa using hb.2) (by omega)
theorem ok_dn (ha : Sz n a) (hb : Sz m b) (h : n + m + 1 ≤ 9000) : okMul a.den b.num = true := okMul_of (i := (a.den : Int)) (by simpa using ha.2) hb.1 (by omega)
theorem bd_dd (ha : Sz n a) (hb : Sz m b) : ((a.den : Int) * (b.den : Int)).natAbs < 2 ^ (n + m) := by
  rw [Int.natAbs_mul]
  exact mul_pow (by simpa using ha.2) (by simpa using hb.2)
theorem bd_nd (ha : Sz n a) (hb : Sz m b) : (a.num * (b.den : Int)).natAbs < 2 ^ (n + m) := by
  rw [Int.natAbs_mul]
  exact mul_pow ha.1 (by simpa using hb.2)
theorem bd_nn (ha : Sz n a) (hb : Sz m b) : (a.num * b.num).natAbs < 2 ^ (n + m) := by
  rw [Int.natAbs_mul]
  exact mul_pow ha.1 hb.1
theorem dd_ne : (a.den : Int) * (b.den : Int) ≠ 0 := by
  have h1 := a.den_nz
  have h2 := b.den_nz
  exact Int.mul_ne_zero (by omega) (by omega)
theorem p2 (k : Nat) : 2 ^ (k + 1) = 2 * 2 ^ k := by rw [Nat.pow_succ, Nat.mul_comm]
theorem add_parts : (((a.num * b.den + b.num * a.den : Int) : Rat) / ((a.den * b.den : Int) : Rat)) = a + b := by
  have h1 := den_ne a
  have h2 := den_ne b
  conv => rhs; rw [rat_eq a, rat_eq b]
  rw [Rat.intCast_add, Rat.intCast_mul, Rat.intCast_mul, Rat.intCast_mul]
  grind
theorem sub_parts : (((a.num * b.den - b.num * a.den : Int) : Rat) / ((a.den * b.den : Int) : Rat)) = a - b := by
  have h1 := den_ne a
  have h2 := den_ne b
  conv => rhs; rw [rat_eq a, rat_eq b]
  rw [Rat.intCast_sub, Rat.intCast_mul, Rat.intCast_mul, Rat.intCast_mul]
  grind
theorem mul_parts : (((a.num * b.num : Int) : Rat) / ((a.den * b.den : Int) : Rat)) = a * b := by
  have h1 := den_ne a
  have h2 := den_ne b
  conv => rhs; rw [rat_eq a, rat_eq b]
  rw [Rat.intCast_mul, Rat.intCast_mul]
  grind
theorem div_parts (h0 : b ≠ 0) : (((a.num * b.den : Int) : Rat) / ((a.den * b.num : Int) : Rat)) = a / b := by
  have h1 := den_ne a
  have h2 := den_ne b
  have h3 : (b.num : Rat) ≠ 0 := by
    intro h
    apply h0
    have : b.num = 0 := by exact_mod_cast h
    exact Rat.num_eq_zero.mp this
  conv => rhs; rw [rat_eq a, rat_eq b]
  rw [Rat.intCast_mul, Rat.intCast_mul]
  grind
theorem sz_add (ha : Sz n a) (hb : Sz m b) : Sz (n + m + 1) (a + b) := by
  rw [← add_parts]
  have h1 := bd_nd ha hb
  have h2 := bd_nd hb ha
  rw [Nat.add_comm m n] at h2
  have h3 := p2 (n + m)
  exact Sz.div (by omega) (pow_mono (bd_dd ha hb) (by omega)) dd_ne
theorem sz_sub (ha : Sz n a) (hb : Sz m b) : Sz (n + m + 1) (a - b) := by
  rw [← sub_parts]
  have h1 := bd_nd ha hb
  have h2 := bd_nd hb ha
  rw [Nat.add_comm m n] at h2
  have h3 := p2 (n + m)
  exact Sz.div (by omega) (pow_mono (bd_dd ha hb) (by omega)) dd_ne
theorem sz_mul (ha : Sz n a) (hb : Sz m b) : Sz (n + m) (a * b) := by
  rw [← mul_parts]
  exact Sz.div (bd_nn ha hb) (bd_dd ha hb) dd_ne
theorem sz_div (ha : Sz n a) (hb : Sz m b) (h0 : b ≠ 0) : Sz (n + m) (a / b) := by
  rw [← div_parts h0]
  have h2 := a.den_nz
  have h3 : b.num ≠ 0 := fun h => h0 (Rat.num_eq_zero.mp h)
  refine Sz.div (bd_nd ha hb) ?_ (Int.mul_ne_zero (by omega) h3)
  rw [Int.natAbs_mul]
  exact mul_pow (by simpa using ha.2) hb.1
theorem sz_neg (ha : Sz n a) : Sz n (-a) := by
  unfold Sz
  rw [Rat.neg_num, Rat.neg_den, Int.natAbs_neg]
  exact ha
theorem plus_spec (ha : Sz n a) (hb : Sz m b) (h : n + m + 1 ≤ 9000) : sem_plus [qT a, qT b] = some (qT (a + b), []) := by
  have hf := frac_spec (a.num * b.den + b.num * a.den) (a.den * b.den) dd_ne (bd_dd ha hb) (by omega)
  rw [add_parts] at hf
  simp [sem_plus, F_plus, semOf, qT, ok_nd ha hb h, ok_nd hb ha (by omega), ok_dd ha hb h]
  rw [hf]
  rfl
theorem minus_spec (ha : Sz n a) (hb : Sz m b) (h : n + m + 1 ≤ 9000) : sem_minus [qT a, qT b] = some (qT (a - b), []) := by
  have hf := frac_spec (a.num * b.den - b.num * a.den) (a.den * b.den) dd_ne (bd_dd ha hb) (by omega)
  rw [sub_parts] at hf
  simp [sem_minus, F_minus, semOf, qT, ok_nd ha hb h, ok_nd hb ha (by omega), ok_dd ha hb h]
  rw [hf]
  rfl
theorem times_spec (ha : Sz n a) (hb : Sz m b) (h : n + m + 1 ≤ 9000) : sem_times [qT a, qT b] = some (qT (a * b), []) := by
  have hf := frac_spec (a.num * b.num) (a.den * b.den) dd_ne (bd_dd ha hb) (by omega)
  rw [mul_parts] at hf
  simp [sem_times, F_times, semOf, qT, ok_nn ha hb h, ok_dd ha hb h]
  rw [hf]
  rfl
theorem over_spec (ha : Sz n a) (hb : Sz m b) (h0 : b ≠ 0) (h : n + m + 1 ≤ 9000) : sem_over [qT a, qT b] = some (qT (a / b), []) := by
  have h2 := a.den_nz
  have h3 : b.num ≠ 0 := fun h => h0 (Rat.num_eq_zero.mp h)
  have hbd : ((a.den : Int) * b.num).natAbs < 2 ^ (n + m) := by
    rw [Int.natAbs_mul]
    exact mul_pow (by simpa using ha.2) hb.1
  have hf := frac_spec (a.num * b.den) (a.den * b.num) (Int.mul_ne_zero (by omega) h3) hbd (by omega)
  rw [div_parts h0] at hf
  simp [sem_over, F_over, semOf, qT, ok_nd ha hb h, ok_dn ha hb h]
  rw [hf]
  rfl
theorem negative_spec : sem_negative [qT a] = some (qT (-a), []) := by
  simp [sem_negative, F_negative, semOf, qT, PySem.sizeLine, Rat.neg_num, Rat.neg_den]
theorem ladd_spec (ha : Sz n a) (hb : Sz m b) (h : n + m + 1 ≤ 9000) : sem__law_add [qT a, qT b] = some (qT (a + b), []) := by
  have hf := ratio_spec (a.num * b.den + b.num * a.den) (a.den * b.den) dd_ne (bd_dd ha hb) (by omega)
  rw [add_parts] at hf
  simp [sem__law_add, F__law_add, semOf, qT, ok_nd ha hb h, ok_nd hb ha (by omega), ok_dd ha hb h]
  rw [hf]
  rfl
theorem lsub_spec (ha : Sz n a) (hb : Sz m b) (h : n + m + 1 ≤ 9000) : sem__law_sub [qT a, qT b] = some (qT (a - b), []) := by
  have hf := ratio_spec (a.num * b.den - b.num * a.den) (a.den * b.den) dd_ne (bd_dd ha hb) (by omega)
  rw [sub_parts] at hf
  simp [sem__law_sub, F__law_sub, semOf, qT, ok_nd ha hb h, ok_nd hb ha (by omega), ok_dd ha hb h]
  rw [hf]
  rfl
theorem lmul_spec (ha : Sz n a) (hb : Sz m b) (h : n + m + 1 ≤ 9000) : sem__law_mul [qT a, qT b] = some (qT (a * b), []) := by
  have hf := ratio_spec (a.num * b.num) (a.den * b.den) dd_ne (bd_dd ha hb) (by omega)
  rw [mul_parts] at hf
  simp [sem__law_mul, F__law_mul, semOf, qT, ok_nn ha hb h, ok_dd ha hb h]
  rw [hf]
  rfl
end
theorem qT_int (i : Int) : qT (i : Rat) = .tup [.int i, .int 1] := by simp [qT]
theorem sz_int {i : Int} {n : Nat} (h : i.natAbs < 2 ^ n) (hn : n ≠ 0) : Sz n (i : Rat) := by
  unfold Sz
  simp only [Rat.num_intCast, Rat.den_intCast]
  exact ⟨h, Nat.one_lt_two_pow hn⟩
theorem qT_inj {a b : Rat} : (a.num = b.num ∧ (a.den : Int) = b.den) ↔ a = b := by
  constructor
  · intro ⟨h1, h2⟩
    exact Rat.ext h1 (by omega)
  · rintro rfl
    exact ⟨rfl, rfl⟩
theorem eqT_qT {a b : Rat} : eqT (qT a) (qT b) = decide (a = b) := by
  unfold qT
  rw [eqT_tup]
  simp only [eqAll_cons, eqAll_nil, eqT_int, Bool.and_true]
  rw [← Bool.decide_and]
  exact decide_eq_decide.mpr qT_inj
end LawP

namespace Tw
open L2
/-! ### loops that may hand back -/
def Ret (I : En → Prop) (o : Option Out) (r : Option T) : Prop := match r with
  | none => ∃ γ2, o = some (.nx γ2) ∧ I γ2
  | some t => ∃ γ2, o = some (.rt t γ2)
theorem forL_find {tg : T → En → Option En} {F : Fs} {I : En → Prop} {g : T → Option T} : ∀ {ts : List T} {γ : En}, (∀ t ∈ ts, ∀ γ, I γ → ∃ γ1, tg t γ = some γ1 ∧ Ret I (F γ1) (g t)) → I γ → Ret I (forL tg F ts γ) (ts.findSome? g)
  | [], γ, _, h0 => ⟨γ, rfl, h0⟩
  | t :: ts, γ, h, h0 => by
    obtain ⟨γ1, h1, h2⟩ := h t (List.mem_cons_self ..) γ h0
    rw [forL_cons h1, List.findSome?_cons]
    cases hg : g t with
    | none =>
      rw [hg] at h2
      obtain ⟨γ2, h3, h4⟩ := h2
      rw [h3]
      exact forL_find (fun t ht => h t (List.mem_cons_of_mem _ ht)) h4
    | some r =>
      rw [hg] at h2
      obtain ⟨γ2, h3⟩ := h2
      rw [h3]
      exact ⟨γ2, rfl⟩
theorem Ret.seq {I J : En → Prop} {F1 F2 : Fs} {γ : En} {r : Option T} (h : Ret J (F1 γ) r) (h2 : ∀ γ', J γ' → ∃ γ2, F2 γ' = some (.nx γ2) ∧ I γ2) : Ret I (sSeq F1 F2 γ) r := by
  cases r with
  | none =>
    obtain ⟨γ2, h3, h4⟩ := h
    rw [sSeq_nx h3]
    exact h2 _ h4
  | some t =>
    obtain ⟨γ2, h3⟩ := h
    rw [sSeq_rt h3]
    exact ⟨γ2, rfl⟩
def iL (ns : List Int) : T := .lst (ns.map T.int)
theorem cutT_map {α β : Type} (f : α → β) (l : List α) (lo hi : Option Int) : cutT (l.map f) lo hi = (cutT l lo hi).map f := by
  unfold cutT
  rw [List.length_map, List.map_take, List.map_drop]
@[simp] theorem r_lenI {ns : List Int} : gLen [iL ns] = some (.int (ns.length : Nat)) := by simp [iL]
theorem iL_at {ns : List Int} {k : Nat} (h : k < ns.length) : gIx (iL ns) (.int (k : Int)) = some (.int (ns.getD k 0)) := by
  show atI (ns.map T.int) (k : Int) = _
  refine atI_nat ?_
  simp [h]
theorem iL_ati {ns : List Int} {i : Int} (h0 : 0 ≤ i) (h : i < ns.length) : gIx (iL ns) (.int i) = some (.int (ns.getD i.toNat 0)) := by
  obtain ⟨k, rfl⟩ := Int.eq_ofNat_of_zero_le h0
  exact iL_at (by omega)
theorem iL_sl {ns : List Int} {lo hi : Option Int} : gSl (iL ns) lo hi = some (iL (cutT ns lo hi)) := by
  show some (T.lst (cutT (ns.map T.int) lo hi)) = _
  rw [cutT_map]
  rfl
theorem iL_sum {ns : List Int} : gSum [iL ns] = some (.int ns.sum) := by
  show (intsOf (ns.map T.int)).map (fun ns => T.int ns.sum) = _
  rw [intsOf_map]
  rfl
theorem iL_max {ns : List Int} (h : ns ≠ []) : gMaxL [iL ns] = some (.int (maxI ns)) := by
  show ((intsOf (ns.map T.int)).bind fun ns => if ns = [] then none else some (T.int (maxI ns))) = _
  rw [intsOf_map]
  simp [h]
theorem iL_min {ns : List Int} (h : ns ≠ []) : gMinL [iL ns] = some (.int (minI ns)) := by
  show ((intsOf (ns.map T.int)).bind fun ns => if ns = [] then none else some (T.int (minI ns))) = _
  rw [intsOf_map]
  simp [h]
theorem iL_lof {ns : List Int} : gListOf [iL ns] = some (iL ns) := rfl
theorem r_osome {f : Ex} {γ : En} : oSome f γ = match f γ with | some (.int i, γ') => some (some i, γ') | _ => none := rfl
theorem r_onone {γ : En} : oNone γ = some (none, γ) := rfl
theorem cut_nat {α : Type} {l : List α} {i k : Nat} (h : i + k ≤ l.length) : cutT l (some (i : Int)) (some ((i : Int) + k)) = (l.drop i).take k := by
  unfold cutT
  rw [show ((i : Int) + k) = ((i + k : Nat) : Int) by omega, HT.sIx_nat, HT.sIx_nat]
  rw [show min i l.length = i by omega, show min (i + k) l.length = i + k by omega, show i + k - i = k by omega]
/-- range's own bounds, for what is small -/
theorem ir1_of {a : Ax} {γ γ' : En} {j : Int} (ha : a γ = some ([.int j], γ')) (h : -1000000 ≤ j ∧ j < 1000000000) : iR1 a γ = some (rngT 0 j.toNat, γ') := by
  unfold iR1
  rw [ha]
  simp only
  rw [if_pos (by omega)]
theorem ir2_of {a : Ax} {γ γ' : En} {i j : Int} (ha : a γ = some ([.int i, .int j], γ')) (h : -1000000 ≤ i ∧ i < 1000000000 ∧ -1000000 ≤ j ∧ j < 1000000000) : iR2 a γ = some (rngT i (j - i).toNat, γ') := by
  unfold iR2
  rw [ha]
  simp only
  rw [if_pos (by omega)]
theorem rng_map {lo : Int} {n : Nat} {f : T → T} {g : Nat → Int} (h : ∀ k : Nat, k < n → f (.int (lo + k)) = .int (g k)) : (rngT lo n).map f = ((List.range n).map g).map T.int := by
  unfold rngT
  rw [List.map_map, List.map_map]
  refine List.map_congr_left fun k hk => ?_
  exact h k (List.mem_range.mp hk)
end Tw

namespace LawP
open Tw L2
/-! the second form of _law_same -/
noncomputable def F2__law_same (self : Sem') : Fs :=
  (sSeq (sIf (tOf (eBin gIs (eVar 1) (eLit .non))) (sRet (eBin gIs (eVar 0) (eLit .non))) sNx) (sSeq (sIf (tOf (eBin gIs (eVar 1) (eLit (.bl true)))) (sRet (eBin gIs (eVar 0) (eLit (.bl true)))) sNx) (sSeq (sIf (tOf (eBin gIs (eVar 1) (eLit (.bl false)))) (sRet (eBin gIs (eVar 0) (eLit (.bl false)))) sNx) (sSeq (sIf (tTru (eUn (gIsi "int") (eVar 1))) (sRet (eAnd (eUn (gIsi "int") (eVar 0)) (eAnd (eNot (eUn (gIsi "bool") (eVar 0))) (eBin gEq (eVar 0) (eVar 1))))) sNx) (sSeq (sIf (tTru (eUn (gIsi "str") (eVar 1))) (sRet (eAnd (eUn (gIsi "str") (eVar 0)) (eBin gEq (eVar 0) (eVar 1)))) sNx) (sSeq (sIf (tTru (eUn (gIsi "dict") (eVar 1))) (sSeq (sIf (tOrT (tNotT (tTru (eUn (gIsi "dict") (eVar 0)))) (tOf (eBin gNe (eCall gLen (aCons (eVar 0) aNil)) (eCall gLen (aCons (eVar 1) aNil))))) (sRet (eLit (.bl false))) sNx) (sSeq (sFor (iSeq (eVar 1)) (tgN 2) (sSeq (sIf (tOrT (tOf (eBin gNotIn (eVar 2) (eVar 0))) (tNotT (tTru (eOwn self [] (aCons (eBin gIx (eVar 0) (eVar 2)) (aCons (eBin gIx (eVar 1) (eVar 2)) aNil)))))) (sRet (eLit (.bl false))) sNx) (sKill 2 sNx))) (sRet (eLit (.bl true))))) sNx) (sSeq (sIf (tOrT (tOf (eBin gNe (eUn (gIsi "tuple") (eVar 0)) (eUn (gIsi "tuple") (eVar 1)))) (tOf (eBin gNe (eUn (gIsi "list") (eVar 0)) (eUn (gIsi "list") (eVar 1))))) (sRet (eLit (.bl false))) sNx) (sSeq (sIf (tOf (eBin gNe (eCall gLen (aCons (eVar 0) aNil)) (eCall gLen (aCons (eVar 1) aNil)))) (sRet (eLit (.bl false))) sNx) (sSeq (sFor (iR1 (aCons (eCall gLen (aCons (eVar 1) aNil)) aNil)) (tgN 3) (sSeq (sIf (tNotT (tTru (eOwn self [] (aCons (eBin gIx (eVar 0) (eVar 3)) (aCons (eBin gIx (eVar 1) (eVar 3)) aNil))))) (sRet (eLit (.bl false))) sNx) (sKill 3 sNx))) (sRet (eLit (.bl true))))))))))))
noncomputable def semR2__law_same : Nat → Sem'
  | 0 => fun _ => none
  | n + 1 => semOf 4 [] (F2__law_same (semR2__law_same n))
theorem same_str2 (n : Nat) (x : PySem.Str) (h : PySem.PyData.strOk x = true) : semR2__law_same (n + 1) [.str x, .str x] = some (.bl true, []) := by
  have h1 : gEq (.str x) (.str x) = some (.bl true) := by
    unfold gEq
    rw [show okT (.str x) = true from by simpa [okT, okN, okS] using h, eqT_refl 60 (.str x) (by simpa [okN, okS] using h)]
    rfl
  simp [semR2__law_same, F2__law_same, semOf, h1]
theorem r_neBB {a b : Bool} : gNe (.bl a) (.bl b) = some (.bl (a != b)) := by
  unfold gNe
  rw [show okT (.bl a) = true from rfl, show okT (.bl b) = true from rfl]
  cases a <;> cases b <;> simp [eqT, toD, PySem.PyData.eqv]
theorem same_lst2 {self : Sem'} {ts : List T} (hl : ts.length < 1000000000) (ih : ∀ t ∈ ts, self [t, t] = some (.bl true, [])) : semOf 4 [] (F2__law_same self) [.lst ts, .lst ts] = some (.bl true, []) := by
  have lp := same_loopL ih
  have hr : iR1 (aCons (eCall gLen (aCons (eVar 1) aNil)) aNil) [some (.lst ts), some (.lst ts), none, none] = some (rngT 0 ts.length, [some (.lst ts), some (.lst ts), none, none]) := ir1_len hl (by simp)
  have hf : sFor (iR1 (aCons (eCall gLen (aCons (eVar 1) aNil)) aNil)) (tgN 3) (sameF self) [some (.lst ts), some (.lst ts), none, none] = some (.nx [some (.lst ts), some (.lst ts), none, none]) := by
    rw [r_for, hr]
    exact lp
  refine semOf_rt (γ := [some (.lst ts), some (.lst ts), none, none]) (γ' := [some (.lst ts), some (.lst ts), none, none]) rfl ?_
  unfold F2__law_same
  rw [sIf_no (γ' := [some (.lst ts), some (.lst ts), none, none]) (by simp [r_neBB]), sIf_no (γ' := [some (.lst ts), some (.lst ts), none, none]) (by simp [r_neBB]), sIf_no (γ' := [some (.lst ts), some (.lst ts), none, none]) (by simp [r_neBB]), sIf_no (γ' := [some (.lst ts), some (.lst ts), none, none]) (by simp [r_neBB]), sIf_no (γ' := [some (.lst ts), some (.lst ts), none, none]) (by simp [r_neBB]), sIf_no (γ' := [some (.lst ts), some (.lst ts), none, none]) (by simp [r_neBB]), sIf_no (γ' := [some (.lst ts), some (.lst ts), none, none]) (by simp [r_neBB]), sIf_no (γ' := [some (.lst ts), some (.lst ts), none, none]) (by simp [r_neBB]), sSeq_nx hf]
  simp
theorem same_tup2 {self : Sem'} {ts : List T} (hl : ts.length < 1000000000) (ih : ∀ t ∈ ts, self [t, t] = some (.bl true, [])) : semOf 4 [] (F2__law_same self) [.tup ts, .tup ts] = some (.bl true, []) := by
  have lp := same_loopT ih
  have hr : iR1 (aCons (eCall gLen (aCons (eVar 1) aNil)) aNil) [some (.tup ts), some (.tup ts), none, none] = some (rngT 0 ts.length, [some (.tup ts), some (.tup ts), none, none]) := ir1_len hl (by simp)
  have hf : sFor (iR1 (aCons (eCall gLen (aCons (eVar 1) aNil)) aNil)) (tgN 3) (sameF self) [some (.tup ts), some (.tup ts), none, none] = some (.nx [some (.tup ts), some (.tup ts), none, none]) := by
    rw [r_for, hr]
    exact lp
  refine semOf_rt (γ := [some (.tup ts), some (.tup ts), none, none]) (γ' := [some (.tup ts), some (.tup ts), none, none]) rfl ?_
  unfold F2__law_same
  rw [sIf_no (γ' := [some (.tup ts), some (.tup ts), none, none]) (by simp [r_neBB]), sIf_no (γ' := [some (.tup ts), some (.tup ts), none, none]) (by simp [r_neBB]), sIf_no (γ' := [some (.tup ts), some (.tup ts), none, none]) (by simp [r_neBB]), sIf_no (γ' := [some (.tup ts), some (.tup ts), none, none]) (by simp [r_neBB]), sIf_no (γ' := [some (.tup ts), some (.tup ts), none, none]) (by simp [r_neBB]), sIf_no (γ' := [some (.tup ts), some (.tup ts), none, none]) (by simp [r_neBB]), sIf_no (γ' := [some (.tup ts), some (.tup ts), none, none]) (by simp [r_neBB]), sIf_no (γ' := [some (.tup ts), some (.tup ts), none, none]) (by simp [r_neBB]), sSeq_nx hf]
  simp
theorem same_self2 (n : Nat) : ∀ (t : T), okS n t = true → semR2__law_same (n + 1) [t, t] = some (.bl true, []) := by
  induction n with
  | zero =>
    intro t h
    cases t with
    | non => simp [semR2__law_same, F2__law_same, semOf]
    | bl b => cases b <;> simp [semR2__law_same, F2__law_same, semOf]
    | int i => simp [semR2__law_same, F2__law_same, semOf]
    | str x => exact same_str2 0 x (by simpa [okS] using h)
    | lst ts => simp [okS] at h
    | tup ts => simp [okS] at h
    | dct ks vs => simp [okS] at h
    | old ts => simp [okS] at h
  | succ n ih =>
    intro t h
    cases t with
    | non => simp [semR2__law_same, F2__law_same, semOf]
    | bl b => cases b <;> simp [semR2__law_same, F2__law_same, semOf]
    | int i => simp [semR2__law_same, F2__law_same, semOf]
    | str x => exact same_str2 _ x (by simpa [okS] using h)
    | dct ks vs => simp [okS] at h
    | old ts => simp [okS] at h
    | lst ts =>
      simp only [okS, Bool.and_eq_true, decide_eq_true_eq, List.all_eq_true] at h
      exact same_lst2 h.1 fun t ht => ih t (h.2 t ht)
    | tup ts =>
      simp only [okS, Bool.and_eq_true, decide_eq_true_eq, List.all_eq_true] at h
      exact same_tup2 h.1 fun t ht => ih t (h.2 t ht)
end LawP

namespace Tw
open L2 PySem
/-! ### running forward: what follows stands in places that simp does not enter -/
class KE where ap : T → En → Prop
class KA where ap : List T → En → Prop
class KB where ap : Bool → En → Prop
class KX where ap : Option Int → En → Prop
class KT where ap : T → Prop
class KL where ap : List T → Prop
class KI where ap : Int → Prop
class KO where ap : Bool → Prop
class KM where ap : T → T → Prop
class KC where ap : T → List T → Prop
class KG where ap : En → Prop
class KQ where ap : Out → Prop
class KP where ap : Prop
class KN where ap : Prop
def WE (f : Ex) (γ : En) [K : KE] : Prop := ∃ t γ', f γ = some (t, γ') ∧ K.ap t γ'
def WA (f : Ax) (γ : En) [K : KA] : Prop := ∃ t γ', f γ = some (t, γ') ∧ K.ap t γ'
def WI (f : Ix) (γ : En) [K : KA] : Prop := ∃ t γ', f γ = some (t, γ') ∧ K.ap t γ'
def WT (f : Tx) (γ : En) [K : KB] : Prop := ∃ t γ', f γ = some (t, γ') ∧ K.ap t γ'
def WX (f : Ox) (γ : En) [K : KX] : Prop := ∃ t γ', f γ = some (t, γ') ∧ K.ap t γ'
def WS (F : Fs) (γ : En) [Q : KQ] : Prop := ∃ o, F γ = some o ∧ Q.ap o
def WO (o : Option T) [K : KT] : Prop := ∃ t, o = some t ∧ K.ap t
def WL (o : Option (List T)) [K : KL] : Prop := ∃ t, o = some t ∧ K.ap t
def WB (o : Option Bool) [K : KO] : Prop := ∃ t, o = some t ∧ K.ap t
def WM (o : Option (T × T)) [K : KM] : Prop := ∃ t u, o = some (t, u) ∧ K.ap t u
def WC (o : Option (T × List T)) [K : KC] : Prop := ∃ t u, o = some (t, u) ∧ K.ap t u
def WG (tg : T → En → Option En) (t : T) (γ : En) [K : KG] : Prop := ∃ γ', tg t γ = some γ' ∧ K.ap γ'
def WGs (tg : TgT) (ts : List T) (γ : En) [K : KG] : Prop := ∃ γ', tg ts γ = some γ' ∧ K.ap γ'
def WF (tg : T → En → Option En) (F : Fs) (ts : List T) (γ : En) [Q : KQ] : Prop := ∃ o, forL tg F ts γ = some o ∧ Q.ap o
def WW (c : Tx) (F : Fs) (γ : En) [Q : KQ] : Prop := ∃ o, sWhile c F γ = some o ∧ Q.ap o
def WCo (own : List Nat) (tg : T → En → Option En) (test : Tx) (elt : Ex) (ts : List T) (γ : En) [K : KA] : Prop := ∃ us γ', compL own tg test elt ts γ [] = some (us, γ') ∧ K.ap us γ'
def Get (γ : En) (i : Nat) [K : KT] : Prop := ∃ t, γ[i]? = some (some t) ∧ K.ap t
def Put (γ : En) (i : Nat) (t : Option T) [K : KG] : Prop := K.ap (γ.set i t)
def PutA (γ : En) (io : List Nat) (us : List T) [K : KG] : Prop := K.ap (setAll γ io us)
def IsB (t : T) [K : KO] : Prop := ∃ b, t = .bl b ∧ K.ap b
def IsI (t : T) [K : KI] : Prop := ∃ b, t = .int b ∧ K.ap b
def Br (b : Bool) [A : KP] [B : KN] : Prop := (b = true → A.ap) ∧ (b = false → B.ap)
theorem Br.t {b : Bool} {A : KP} {B : KN} (h : @Br b A B) : b = true → A.ap := h.1
theorem Br.f {b : Bool} {A : KP} {B : KN} (h : @Br b A B) : b = false → B.ap := h.2
def Sd (p : Prop) [A : KP] : Prop := p ∧ A.ap
theorem Sd.s {p : Prop} {A : KP} (h : @Sd p A) : p := h.1
theorem Sd.k {p : Prop} {A : KP} (h : @Sd p A) : A.ap := h.2
def seqK (F : Fs) (Q : KQ) : KQ := ⟨fun o => match o with | .nx γ => @WS F γ Q | o => Q.ap o⟩
def lpK (I : En → Prop) (Q : KQ) : KQ := ⟨fun o => match o with | .nx γ => I γ | .ct γ => I γ | .bk γ => Q.ap (.nx γ) | .rt t γ => Q.ap (.rt t γ)⟩
def finK (pl : List Nat) (K : KC) : KQ := ⟨fun o => match o with | .nx γ => K.ap .non (outsOf pl γ) | .rt t γ => K.ap t (outsOf pl γ) | _ => False⟩
section
variable {γ : En} {f f1 f2 a b c : Ex} {g h : Ax} {t u : T} {F F1 F2 : Fs} {cc c1 c2 : Tx} {i j k n : Nat} {ts us : List T} {x : Option T} {pl : List Nat}
variable {Ke : KE} {Ka : KA} {Kb : KB} {Kx : KX} {Kt : KT} {Kl : KL} {Ki : KI} {Ko : KO} {Km : KM} {Kc : KC} {Kg : KG} {Q : KQ} {A : KP} {B : KN} {I : En → Prop} {bb : Bool} {ii jj : Int}
theorem seqK_nx : (seqK F Q).ap (.nx γ) = @WS F γ Q := rfl
theorem seqK_rt : (seqK F Q).ap (.rt t γ) = Q.ap (.rt t γ) := rfl
theorem seqK_bk : (seqK F Q).ap (.bk γ) = Q.ap (.bk γ) := rfl
theorem seqK_ct : (seqK F Q).ap (.ct γ) = Q.ap (.ct γ) := rfl
theorem lpK_nx : (lpK I Q).ap (.nx γ) = I γ := rfl
theorem lpK_ct : (lpK I Q).ap (.ct γ) = I γ := rfl
theorem lpK_bk : (lpK I Q).ap (.bk γ) = Q.ap (.nx γ) := rfl
theorem lpK_rt : (lpK I Q).ap (.rt t γ) = Q.ap (.rt t γ) := rfl
theorem finK_nx : (finK pl Kc).ap (.nx γ) = Kc.ap .non (outsOf pl γ) := rfl
theorem finK_rt : (finK pl Kc).ap (.rt t γ) = Kc.ap t (outsOf pl γ) := rfl
theorem br_t : @Br true A B = A.ap := propext ⟨fun h => h.t rfl, fun h => ⟨fun _ => h, fun h => (nomatch h)⟩⟩
theorem br_f : @Br false A B = B.ap := propext ⟨fun h => h.f rfl, fun h => ⟨fun h => (nomatch h), fun _ => h⟩⟩
theorem br_n {A : KP} {B : KN} : @Br (!bb) A B = @Br bb ⟨B.ap⟩ ⟨A.ap⟩ := by cases bb <;> simp [br_t, br_f]
theorem sd_t : @Sd True A = A.ap := propext ⟨fun h => h.k, fun h => ⟨trivial, h⟩⟩
theorem wo_s : @WO (some t) Kt = Kt.ap t := by simp [WO]
theorem wl_s : @WL (some ts) Kl = Kl.ap ts := by simp [WL]
theorem wb_s : @WB (some bb) Ko = Ko.ap bb := by simp [WB]
theorem wm_s : @WM (some (t, u)) Km = Km.ap t u := by simp [WM, and_assoc]
theorem wc_s : @WC (some (t, us)) Kc = Kc.ap t us := by simp [WC, and_assoc]
theorem wo_if {p : Prop} {_ : Decidable p} {o : Option T} : @WO (if p then o else none) Kt = @Sd p ⟨@WO o Kt⟩ := by
  by_cases h : p
  · simp only [h, if_true, sd_t]
  · rw [if_neg h]; exact propext ⟨fun ⟨_, h, _⟩ => (nomatch h), fun h' => absurd h'.s h⟩
theorem wl_if {p : Prop} {_ : Decidable p} {o : Option (List T)} : @WL (if p then o else none) Kl = @Sd p ⟨@WL o Kl⟩ := by
  by_cases h : p
  · simp only [h, if_true, sd_t]
  · rw [if_neg h]; exact propext ⟨fun ⟨_, h, _⟩ => (nomatch h), fun h' => absurd h'.s h⟩
theorem wm_if {p : Prop} {_ : Decidable p} {o : Option (T × T)} : @WM (if p then o else none) Km = @Sd p ⟨@WM o Km⟩ := by
  by_cases h : p
  · simp only [h, if_true, sd_t]
  · rw [if_neg h]; exact propext ⟨fun ⟨_, _, h, _⟩ => (nomatch h), fun h' => absurd h'.s h⟩
theorem isB_b : @IsB (.bl bb) Ko = Ko.ap bb := by simp [IsB]
theorem isI_i : @IsI (.int ii) Ki = Ki.ap ii := by simp [IsI]
theorem get_0 : @Get (some t :: γ) 0 Kt = Kt.ap t := by simp [Get]
theorem get_s : @Get (x :: γ) (i + 1) Kt = @Get γ i Kt := by simp [Get]
theorem put_0 {y : Option T} : @Put (x :: γ) 0 y Kg = Kg.ap (y :: γ) := rfl
theorem put_s {y : Option T} : @Put (x :: γ) (i + 1) y Kg = @Put γ i y ⟨fun γ' => Kg.ap (x :: γ')⟩ := rfl
theorem putA_0 : @PutA γ [] us Kg = Kg.ap γ := rfl
theorem putA_s {io : List Nat} : @PutA γ (i :: io) (u :: us) Kg = @Put γ i (some u) ⟨fun γ' => @PutA γ' io us Kg⟩ := rfl
theorem bind_ex {α β : Type} {o : Option α} {f : α → Option β} {P : β → Prop} : (∃ y, o.bind f = some y ∧ P y) ↔ ∃ x, o = some x ∧ ∃ y, f x = some y ∧ P y := by
  constructor
  · rintro ⟨y, h, q⟩
    obtain ⟨x, h1, h2⟩ := Option.bind_eq_some_iff.mp h
    exact ⟨x, h1, y, h2, q⟩
  · rintro ⟨x, h1, y, h2, q⟩
    exact ⟨y, by rw [h1]; exact h2, q⟩
theorem we_lit : @WE (eLit t) γ Ke = Ke.ap t γ := by simp [WE, and_assoc]
theorem we_var : @WE (eVar i) γ Ke = @Get γ i ⟨fun t => Ke.ap t γ⟩ := by
  unfold WE Get eVar
  refine propext ⟨?_, ?_⟩
  · rintro ⟨t, γ', h, q⟩
    split at h
    · rename_i t0 h0; cases h; exact ⟨_, h0, q⟩
    · cases h
  · rintro ⟨t, h, q⟩
    exact ⟨t, γ, by rw [h], q⟩
theorem we_bin {g : T → T → Option T} : @WE (eBin g a b) γ Ke = @WE a γ ⟨fun x γ1 => @WE b γ1 ⟨fun y γ2 => @WO (g x y) ⟨fun z => Ke.ap z γ2⟩⟩⟩ := by
  unfold WE WO eBin
  refine propext ⟨?_, ?_⟩
  · rintro ⟨t, γ', h, q⟩
    obtain ⟨⟨x, γ1⟩, h1, h⟩ := Option.bind_eq_some_iff.mp h
    obtain ⟨⟨y, γ2⟩, h2, h⟩ := Option.bind_eq_some_iff.mp h
    obtain ⟨z, h3, h⟩ := Option.map_eq_some_iff.mp h
    cases h
    exact ⟨x, γ1, h1, y, _, h2, _, h3, q⟩
  · rintro ⟨x, γ1, h1, y, γ2, h2, z, h3, q⟩
    exact ⟨z, γ2, by rw [h1, Option.bind_some, h2, Option.bind_some]; dsimp only; rw [h3]; rfl, q⟩
theorem we_un {g : T → Option T} : @WE (eUn g a) γ Ke = @WE a γ ⟨fun x γ1 => @WO (g x) ⟨fun z => Ke.ap z γ1⟩⟩ := by
  unfold WE WO eUn
  refine propext ⟨?_, ?_⟩
  · rintro ⟨t, γ', h, q⟩
    obtain ⟨⟨x, γ1⟩, h1, h⟩ := Option.bind_eq_some_iff.mp h
    obtain ⟨z, h3, h⟩ := Option.map_eq_some_iff.mp h
    cases h
    exact ⟨x, γ1, h1, _, h3, q⟩
  · rintro ⟨x, γ1, h1, z, h3, q⟩
    exact ⟨z, γ1, by rw [h1, Option.bind_some]; dsimp only; rw [h3]; rfl, q⟩
theorem we_call {g : List T → Option T} {a : Ax} : @WE (eCall g a) γ Ke = @WA a γ ⟨fun x γ1 => @WO (g x) ⟨fun z => Ke.ap z γ1⟩⟩ := by
  unfold WE WA WO eCall
  refine propext ⟨?_, ?_⟩
  · rintro ⟨t, γ', h, q⟩
    obtain ⟨⟨x, γ1⟩, h1, h⟩ := Option.bind_eq_some_iff.mp h
    obtain ⟨z, h3, h⟩ := Option.map_eq_some_iff.mp h
    cases h
    exact ⟨x, γ1, h1, _, h3, q⟩
  · rintro ⟨x, γ1, h1, z, h3, q⟩
    exact ⟨z, γ1, by rw [h1, Option.bind_some]; dsimp only; rw [h3]; rfl, q⟩
theorem we_chain {g g' : T → T → Option T} : @WE (eChain g g' a b c) γ Ke = @WE a γ ⟨fun x γ1 => @WE b γ1 ⟨fun y γ2 => @WO (g x y) ⟨fun z => @IsB z ⟨fun q => @Br q ⟨@WE c γ2 ⟨fun w γ3 => @WO (g' y w) ⟨fun z => Ke.ap z γ3⟩⟩⟩ ⟨Ke.ap (.bl false) γ2⟩⟩⟩⟩⟩ := by
  unfold WE WO eChain IsB
  refine propext ⟨?_, ?_⟩
  · rintro ⟨t, γ', h, q⟩
    obtain ⟨⟨x, γ1⟩, h1, h⟩ := Option.bind_eq_some_iff.mp h
    obtain ⟨⟨y, γ2⟩, h2, h⟩ := Option.bind_eq_some_iff.mp h
    dsimp only at h
    refine ⟨x, γ1, h1, y, γ2, h2, ?_⟩
    split at h
    · rename_i h3
      obtain ⟨⟨w, γ3⟩, h4, h⟩ := Option.bind_eq_some_iff.mp h
      obtain ⟨z, h5, h⟩ := Option.map_eq_some_iff.mp h
      cases h
      exact ⟨_, h3, true, rfl, ⟨fun _ => ⟨w, _, h4, _, h5, q⟩, fun h => nomatch h⟩⟩
    · rename_i h3
      cases h
      exact ⟨_, h3, false, rfl, ⟨fun h => (nomatch h), fun _ => q⟩⟩
    · cases h
  · rintro ⟨x, γ1, h1, y, γ2, h2, z, h3, q, rfl, hb⟩
    cases q with
    | false => exact ⟨_, γ2, by rw [h1, Option.bind_some, h2, Option.bind_some]; dsimp only; rw [h3], hb.f rfl⟩
    | true =>
      obtain ⟨w, γ3, h4, z, h5, q⟩ := hb.t rfl
      exact ⟨z, γ3, by rw [h1, Option.bind_some, h2, Option.bind_some]; dsimp only; rw [h3]; dsimp only; rw [h4, Option.bind_some]; dsimp only; rw [h5]; rfl, q⟩
theorem wt_of : @WT (tOf f) γ Kb = @WE f γ ⟨fun t γ' => @IsB t ⟨fun b => Kb.ap b γ'⟩⟩ := by
  unfold WT WE IsB tOf
  refine propext ⟨?_, ?_⟩
  · rintro ⟨t, γ', h, q⟩
    split at h
    · rename_i h1; cases h; exact ⟨_, _, h1, _, rfl, q⟩
    · cases h
  · rintro ⟨t, γ', h, b, rfl, q⟩
    exact ⟨b, γ', by rw [h], q⟩
theorem we_eof : @WE (eOf cc) γ Ke = @WT cc γ ⟨fun b γ' => Ke.ap (.bl b) γ'⟩ := by
  unfold WT WE eOf
  refine propext ⟨?_, ?_⟩
  · rintro ⟨t, γ', h, q⟩
    obtain ⟨⟨x, γ1⟩, h1, h⟩ := Option.map_eq_some_iff.mp h
    cases h
    exact ⟨_, _, h1, q⟩
  · rintro ⟨t, γ', h, q⟩
    exact ⟨_, γ', by rw [h]; rfl, q⟩
theorem we_not : @WE (eNot f) γ Ke = @WE f γ ⟨fun t γ' => @IsB t ⟨fun b => Ke.ap (.bl (!b)) γ'⟩⟩ := by
  unfold WE IsB eNot
  refine propext ⟨?_, ?_⟩
  · rintro ⟨t, γ', h, q⟩
    split at h
    · rename_i h1; cases h; exact ⟨_, _, h1, _, rfl, q⟩
    · cases h
  · rintro ⟨t, γ', h, b, rfl, q⟩
    exact ⟨_, γ', by rw [h], q⟩
theorem we_and : @WE (eAnd f1 f2) γ Ke = @WE f1 γ ⟨fun t γ' => @IsB t ⟨fun b => @Br b ⟨@WE f2 γ' Ke⟩ ⟨Ke.ap (.bl false) γ'⟩⟩⟩ := by
  unfold WE IsB eAnd
  refine propext ⟨?_, ?_⟩
  · rintro ⟨t, γ', h, q⟩
    split at h
    · rename_i h1; exact ⟨_, _, h1, _, rfl, fun _ => ⟨t, γ', h, q⟩, fun h => nomatch h⟩
    · rename_i h1; cases h; exact ⟨_, _, h1, _, rfl, fun h => (nomatch h), fun _ => q⟩
    · cases h
  · rintro ⟨t, γ', h, b, rfl, q⟩
    cases b with
    | false => exact ⟨_, γ', by rw [h], q.f rfl⟩
    | true =>
      obtain ⟨t, γ2, h2, q⟩ := q.t rfl
      exact ⟨t, γ2, by rw [h]; exact h2, q⟩
theorem we_or : @WE (eOr f1 f2) γ Ke = @WE f1 γ ⟨fun t γ' => @IsB t ⟨fun b => @Br b ⟨Ke.ap (.bl true) γ'⟩ ⟨@WE f2 γ' Ke⟩⟩⟩ := by
  unfold WE IsB eOr
  refine propext ⟨?_, ?_⟩
  · rintro ⟨t, γ', h, q⟩
    split at h
    · rename_i h1; exact ⟨_, _, h1, _, rfl, fun h => (nomatch h), fun _ => ⟨t, γ', h, q⟩⟩
    · rename_i h1; cases h; exact ⟨_, _, h1, _, rfl, fun _ => q, fun h => (nomatch h)⟩
    · cases h
  · rintro ⟨t, γ', h, b, rfl, q⟩
    cases b with
    | true => exact ⟨_, γ', by rw [h], q.t rfl⟩
    | false =>
      obtain ⟨t, γ2, h2, q⟩ := q.f rfl
      exact ⟨t, γ2, by rw [h]; exact h2, q⟩
theorem wt_yes : @WT tYesT γ Kb = Kb.ap true γ := by simp [WT, and_assoc]
theorem wt_not : @WT (tNotT cc) γ Kb = @WT cc γ ⟨fun b γ' => Kb.ap (!b) γ'⟩ := by
  unfold WT tNotT
  refine propext ⟨?_, ?_⟩
  · rintro ⟨t, γ', h, q⟩
    obtain ⟨⟨x, γ1⟩, h1, h⟩ := Option.map_eq_some_iff.mp h
    cases h
    exact ⟨_, _, h1, q⟩
  · rintro ⟨t, γ', h, q⟩
    exact ⟨_, γ', by rw [h]; rfl, q⟩
theorem wt_and : @WT (tAndT c1 c2) γ Kb = @WT c1 γ ⟨fun b γ' => @Br b ⟨@WT c2 γ' Kb⟩ ⟨Kb.ap false γ'⟩⟩ := by
  unfold WT tAndT
  refine propext ⟨?_, ?_⟩
  · rintro ⟨t, γ', h, q⟩
    obtain ⟨⟨x, γ1⟩, h1, h⟩ := Option.bind_eq_some_iff.mp h
    refine ⟨x, γ1, h1, fun e => ?_, fun e => ?_⟩ <;> subst e
    · exact ⟨t, γ', h, q⟩
    · cases h; exact q
  · rintro ⟨b, γ', h, q⟩
    cases b with
    | false => exact ⟨_, γ', by rw [h]; rfl, q.f rfl⟩
    | true =>
      obtain ⟨t, γ2, h2, q⟩ := q.t rfl
      exact ⟨t, γ2, by rw [h]; exact h2, q⟩
theorem wt_or : @WT (tOrT c1 c2) γ Kb = @WT c1 γ ⟨fun b γ' => @Br b ⟨Kb.ap true γ'⟩ ⟨@WT c2 γ' Kb⟩⟩ := by
  unfold WT tOrT
  refine propext ⟨?_, ?_⟩
  · rintro ⟨t, γ', h, q⟩
    obtain ⟨⟨x, γ1⟩, h1, h⟩ := Option.bind_eq_some_iff.mp h
    refine ⟨x, γ1, h1, fun e => ?_, fun e => ?_⟩ <;> subst e
    · cases h; exact q
    · exact ⟨t, γ', h, q⟩
  · rintro ⟨b, γ', h, q⟩
    cases b with
    | true => exact ⟨_, γ', by rw [h]; rfl, q.t rfl⟩
    | false =>
      obtain ⟨t, γ2, h2, q⟩ := q.f rfl
      exact ⟨t, γ2, by rw [h]; exact h2, q⟩
theorem wt_tru : @WT (tTru f) γ Kb = @WE f γ ⟨fun t γ' => @WB (truT t) ⟨fun b => Kb.ap b γ'⟩⟩ := by
  unfold WT WE WB tTru
  refine propext ⟨?_, ?_⟩
  · rintro ⟨t, γ', h, q⟩
    obtain ⟨⟨x, γ1⟩, h1, h⟩ := Option.bind_eq_some_iff.mp h
    obtain ⟨z, h3, h⟩ := Option.map_eq_some_iff.mp h
    cases h
    exact ⟨x, γ1, h1, _, h3, q⟩
  · rintro ⟨x, γ1, h1, z, h3, q⟩
    exact ⟨z, γ1, by rw [h1, Option.bind_some]; dsimp only; rw [h3]; rfl, q⟩
theorem we_if : @WE (eIf cc a b) γ Ke = @WT cc γ ⟨fun x γ' => @Br x ⟨@WE a γ' Ke⟩ ⟨@WE b γ' Ke⟩⟩ := by
  unfold WT WE eIf
  refine propext ⟨?_, ?_⟩
  · rintro ⟨t, γ', h, q⟩
    obtain ⟨⟨x, γ1⟩, h1, h⟩ := Option.bind_eq_some_iff.mp h
    refine ⟨x, γ1, h1, fun e => ?_, fun e => ?_⟩ <;> subst e <;> exact ⟨t, γ', h, q⟩
  · rintro ⟨b, γ', h, q⟩
    cases b with
    | false =>
      obtain ⟨t, γ2, h2, q⟩ := q.f rfl
      exact ⟨t, γ2, by rw [h]; exact h2, q⟩
    | true =>
      obtain ⟨t, γ2, h2, q⟩ := q.t rfl
      exact ⟨t, γ2, by rw [h]; exact h2, q⟩
theorem wa_nil : @WA aNil γ Ka = Ka.ap [] γ := by simp [WA, and_assoc]
theorem wa_cons : @WA (aCons f g) γ Ka = @WE f γ ⟨fun t γ1 => @WA g γ1 ⟨fun ts γ2 => Ka.ap (t :: ts) γ2⟩⟩ := by
  unfold WA WE aCons
  refine propext ⟨?_, ?_⟩
  · rintro ⟨t, γ', h, q⟩
    obtain ⟨⟨x, γ1⟩, h1, h⟩ := Option.bind_eq_some_iff.mp h
    obtain ⟨⟨z, γ2⟩, h3, h⟩ := Option.map_eq_some_iff.mp h
    cases h
    exact ⟨x, γ1, h1, _, _, h3, q⟩
  · rintro ⟨x, γ1, h1, z, γ2, h3, q⟩
    exact ⟨x :: z, γ2, by rw [h1, Option.bind_some]; dsimp only; rw [h3]; rfl, q⟩
theorem eVar_iff {γ' : En} : eVar i γ = some (t, γ') ↔ γ[i]? = some (some t) ∧ γ' = γ := by
  constructor
  · exact eVar_some
  · rintro ⟨h, rfl⟩
    unfold eVar
    rw [h]
theorem wa_io : @WA (aIo i g) γ Ka = @Get γ i ⟨fun _ => @WA g γ ⟨fun ts γ2 => @Get γ2 i ⟨fun t => Ka.ap (t :: ts) γ2⟩⟩⟩ := by
  unfold WA Get aIo
  refine propext ⟨?_, ?_⟩
  · rintro ⟨t, γ', h, q⟩
    obtain ⟨⟨x, γ1⟩, h1, h⟩ := Option.bind_eq_some_iff.mp h
    obtain ⟨⟨z, γ2⟩, h3, h⟩ := Option.bind_eq_some_iff.mp h
    obtain ⟨⟨y, γ4⟩, h4, h⟩ := Option.map_eq_some_iff.mp h
    cases h
    obtain ⟨h1, rfl⟩ := eVar_iff.mp h1
    obtain ⟨h4, h5⟩ := eVar_iff.mp h4
    dsimp only at h4 h5 q
    subst h5
    exact ⟨x, h1, z, _, h3, y, h4, q⟩
  · rintro ⟨x, h1, z, γ2, h3, y, h4, q⟩
    refine ⟨y :: z, γ2, ?_, q⟩
    rw [eVar_iff.mpr ⟨h1, rfl⟩, Option.bind_some, h3, Option.bind_some, eVar_iff.mpr ⟨h4, rfl⟩]
    rfl
theorem we_tup {a : Ax} : @WE (eTup a) γ Ke = @WA a γ ⟨fun ts γ' => @Sd (ts.length ≤ sizeLine) ⟨Ke.ap (.tup ts) γ'⟩⟩ := by
  unfold WA WE eTup
  refine propext ⟨?_, ?_⟩
  · rintro ⟨t, γ', h, q⟩
    obtain ⟨⟨x, γ1⟩, h1, h⟩ := Option.bind_eq_some_iff.mp h
    split at h <;> cases h
    rename_i hl
    exact ⟨x, _, h1, hl, q⟩
  · rintro ⟨x, γ1, h1, hl, q⟩
    exact ⟨_, γ1, by rw [h1, Option.bind_some]; exact if_pos hl, q⟩
theorem we_lst {a : Ax} : @WE (eLst a) γ Ke = @WA a γ ⟨fun ts γ' => @Sd (ts.length ≤ sizeLine) ⟨Ke.ap (.lst ts) γ'⟩⟩ := by
  unfold WA WE eLst
  refine propext ⟨?_, ?_⟩
  · rintro ⟨t, γ', h, q⟩
    obtain ⟨⟨x, γ1⟩, h1, h⟩ := Option.bind_eq_some_iff.mp h
    split at h <;> cases h
    rename_i hl
    exact ⟨x, _, h1, hl, q⟩
  · rintro ⟨x, γ1, h1, hl, q⟩
    exact ⟨_, γ1, by rw [h1, Option.bind_some]; exact if_pos hl, q⟩
theorem we_own {S : Sem'} {io : List Nat} {a : Ax} : @WE (eOwn S io a) γ Ke = @WA a γ ⟨fun ts γ' => @WC (S ts) ⟨fun t us => @PutA γ' io us ⟨fun γ2 => Ke.ap t γ2⟩⟩⟩ := by
  unfold WA WE WC eOwn PutA
  refine propext ⟨?_, ?_⟩
  · rintro ⟨t, γ', h, q⟩
    obtain ⟨⟨x, γ1⟩, h1, h⟩ := Option.bind_eq_some_iff.mp h
    obtain ⟨⟨z, γ2⟩, h3, h⟩ := Option.map_eq_some_iff.mp h
    cases h
    exact ⟨x, γ1, h1, _, _, h3, q⟩
  · rintro ⟨x, γ1, h1, z, γ2, h3, q⟩
    exact ⟨z, _, by rw [h1, Option.bind_some]; dsimp only; rw [h3]; rfl, q⟩
theorem wx_none : @WX oNone γ Kx = Kx.ap none γ := by simp [WX, oNone, and_assoc]
theorem wx_some : @WX (oSome f) γ Kx = @WE f γ ⟨fun t γ' => @IsI t ⟨fun i => Kx.ap (some i) γ'⟩⟩ := by
  unfold WX WE IsI oSome
  refine propext ⟨?_, ?_⟩
  · rintro ⟨t, γ', h, q⟩
    split at h
    · rename_i h1; cases h; exact ⟨_, _, h1, _, rfl, q⟩
    · cases h
  · rintro ⟨t, γ', h, b, rfl, q⟩
    exact ⟨_, γ', by rw [h], q⟩
theorem we_sl {g : T → Option Int → Option Int → Option T} {lo hi : Ox} : @WE (eSl g f lo hi) γ Ke = @WE f γ ⟨fun x γ1 => @WX lo γ1 ⟨fun y γ2 => @WX hi γ2 ⟨fun z γ3 => @WO (g x y z) ⟨fun r => Ke.ap r γ3⟩⟩⟩⟩ := by
  unfold WE WX WO eSl
  refine propext ⟨?_, ?_⟩
  · rintro ⟨t, γ', h, q⟩
    obtain ⟨⟨x, γ1⟩, h1, h⟩ := Option.bind_eq_some_iff.mp h
    obtain ⟨⟨y, γ2⟩, h2, h⟩ := Option.bind_eq_some_iff.mp h
    obtain ⟨⟨z, γ3⟩, h3, h⟩ := Option.bind_eq_some_iff.mp h
    obtain ⟨r, h4, h⟩ := Option.map_eq_some_iff.mp h
    cases h
    exact ⟨x, γ1, h1, y, _, h2, z, _, h3, _, h4, q⟩
  · rintro ⟨x, γ1, h1, y, γ2, h2, z, γ3, h3, r, h4, q⟩
    exact ⟨r, γ3, by rw [h1, Option.bind_some]; dsimp only; rw [h2, Option.bind_some]; dsimp only; rw [h3, Option.bind_some]; dsimp only; rw [h4]; rfl, q⟩
theorem we_mut {kd : T → Bool} {g : T → List T → Option (T × T)} {a : Ax} : @WE (eMut i kd g a) γ Ke = @Get γ i ⟨fun t0 => @Sd (kd t0 = true) ⟨@WA a γ ⟨fun ts γ' => @Get γ' i ⟨fun t => @WM (g t ts) ⟨fun r t' => @Put γ' i (some t') ⟨fun γ2 => Ke.ap r γ2⟩⟩⟩⟩⟩⟩ := by
  unfold WE Get WA WM Put eMut
  refine propext ⟨?_, ?_⟩
  · rintro ⟨t, γ', h, q⟩
    split at h
    · rename_i t0 h0
      split at h
      · rename_i hk
        obtain ⟨⟨x, γ1⟩, h1, h⟩ := Option.bind_eq_some_iff.mp h
        dsimp only at h
        split at h
        · rename_i t1 h2
          obtain ⟨⟨r, t'⟩, h3, h⟩ := Option.map_eq_some_iff.mp h
          cases h
          exact ⟨t0, h0, hk, x, γ1, h1, t1, h2, _, _, h3, q⟩
        · cases h
      · cases h
    · cases h
  · rintro ⟨t0, h0, hk, x, γ1, h1, t1, h2, r, t', h3, q⟩
    refine ⟨r, _, ?_, q⟩
    rw [h0]
    dsimp only
    rw [if_pos hk, h1, Option.bind_some]
    dsimp only
    rw [h2]
    dsimp only
    rw [h3]
    rfl
/-! statements -/
theorem ws_nx : @WS sNx γ Q = Q.ap (.nx γ) := by simp [WS, and_assoc]
theorem ws_seq : @WS (sSeq F1 F2) γ Q = @WS F1 γ (seqK F2 Q) := by
  have e : sSeq F1 F2 γ = match F1 γ with | some (.nx γ') => F2 γ' | o => o := rfl
  unfold WS
  rw [e]
  refine propext ⟨?_, ?_⟩
  · rintro ⟨o, h, q⟩
    split at h
    · rename_i γ' h1
      exact ⟨_, h1, o, h, q⟩
    · rename_i o' h1
      refine ⟨o, h, ?_⟩
      cases o with
      | nx γ' => exact absurd h (h1 γ')
      | rt t γ' => exact q
      | bk γ' => exact q
      | ct γ' => exact q
  · rintro ⟨o, h, q⟩
    cases o with
    | nx γ' =>
      obtain ⟨o, h2, q⟩ := q
      exact ⟨o, by rw [h]; exact h2, q⟩
    | rt t γ' => exact ⟨_, by rw [h], q⟩
    | bk γ' => exact ⟨_, by rw [h], q⟩
    | ct γ' => exact ⟨_, by rw [h], q⟩
theorem ws_kill : @WS (sKill i F) γ Q = @Put γ i none ⟨fun γ' => @WS F γ' Q⟩ := rfl
theorem ws_asg : @WS (sAsg i f) γ Q = @WE f γ ⟨fun t γ' => @Put γ' i (some t) ⟨fun γ2 => Q.ap (.nx γ2)⟩⟩ := by
  unfold WS WE Put sAsg
  refine propext ⟨?_, ?_⟩
  · rintro ⟨o, h, q⟩
    obtain ⟨⟨x, γ1⟩, h1, h⟩ := Option.map_eq_some_iff.mp h
    cases h
    exact ⟨x, γ1, h1, q⟩
  · rintro ⟨x, γ1, h1, q⟩
    exact ⟨_, by rw [h1]; rfl, q⟩
theorem ws_drop : @WS (sDrop f) γ Q = @WE f γ ⟨fun t γ' => Q.ap (.nx γ')⟩ := by
  unfold WS WE sDrop
  refine propext ⟨?_, ?_⟩
  · rintro ⟨o, h, q⟩
    obtain ⟨⟨x, γ1⟩, h1, h⟩ := Option.map_eq_some_iff.mp h
    cases h
    exact ⟨x, γ1, h1, q⟩
  · rintro ⟨x, γ1, h1, q⟩
    exact ⟨_, by rw [h1]; rfl, q⟩
theorem ws_ret : @WS (sRet f) γ Q = @WE f γ ⟨fun t γ' => Q.ap (.rt t γ')⟩ := by
  unfold WS WE sRet
  refine propext ⟨?_, ?_⟩
  · rintro ⟨o, h, q⟩
    obtain ⟨⟨x, γ1⟩, h1, h⟩ := Option.map_eq_some_iff.mp h
    cases h
    exact ⟨x, γ1, h1, q⟩
  · rintro ⟨x, γ1, h1, q⟩
    exact ⟨_, by rw [h1]; rfl, q⟩
theorem ws_retN : @WS sRetN γ Q = Q.ap (.rt .non γ) := by simp [WS, and_assoc]
theorem ws_brk : @WS sBrk γ Q = Q.ap (.bk γ) := by simp [WS, and_assoc]
theorem ws_cnt : @WS sCnt γ Q = Q.ap (.ct γ) := by simp [WS, and_assoc]
theorem ws_if : @WS (sIf cc F1 F2) γ Q = @WT cc γ ⟨fun x γ' => @Br x ⟨@WS F1 γ' Q⟩ ⟨@WS F2 γ' Q⟩⟩ := by
  unfold WT WS sIf
  refine propext ⟨?_, ?_⟩
  · rintro ⟨t, h, q⟩
    obtain ⟨⟨x, γ1⟩, h1, h⟩ := Option.bind_eq_some_iff.mp h
    refine ⟨x, γ1, h1, fun e => ?_, fun e => ?_⟩ <;> subst e <;> exact ⟨t, h, q⟩
  · rintro ⟨b, γ', h, q⟩
    cases b with
    | false =>
      obtain ⟨t, h2, q⟩ := q.f rfl
      exact ⟨t, by rw [h]; exact h2, q⟩
    | true =>
      obtain ⟨t, h2, q⟩ := q.t rfl
      exact ⟨t, by rw [h]; exact h2, q⟩
theorem ws_asgT {tg : T → En → Option En} : @WS (sAsgT tg f) γ Q = @WE f γ ⟨fun t γ' => @WG tg t γ' ⟨fun γ2 => Q.ap (.nx γ2)⟩⟩ := by
  unfold WS WE WG sAsgT
  refine propext ⟨?_, ?_⟩
  · rintro ⟨o, h, q⟩
    obtain ⟨⟨x, γ1⟩, h1, h⟩ := Option.bind_eq_some_iff.mp h
    obtain ⟨γ2, h2, h⟩ := Option.map_eq_some_iff.mp h
    cases h
    exact ⟨x, γ1, h1, γ2, h2, q⟩
  · rintro ⟨x, γ1, h1, γ2, h2, q⟩
    exact ⟨_, by rw [h1, Option.bind_some]; dsimp only; rw [h2]; rfl, q⟩
def Two (ts : List T) [K : KM] : Prop := ∃ t u, ts = [t, u] ∧ K.ap t u
def Three (ts : List T) [K : KL] : Prop := ∃ t u w, ts = [t, u, w] ∧ K.ap [t, u, w]
theorem two_2 : @Two [t, u] Km = Km.ap t u := by simp [Two, and_assoc]
theorem ws_par {a : Ax} : @WS (sPar i j a) γ Q = @WA a γ ⟨fun ts γ' => @Two ts ⟨fun t u => @Put γ' i (some t) ⟨fun γ1 => @Put γ1 j (some u) ⟨fun γ2 => Q.ap (.nx γ2)⟩⟩⟩⟩ := by
  unfold WS WA Put Two sPar
  refine propext ⟨?_, ?_⟩
  · rintro ⟨o, h, q⟩
    split at h
    · rename_i h1; cases h; exact ⟨_, _, h1, _, _, rfl, q⟩
    · cases h
  · rintro ⟨ts, γ', h, t, u, rfl, q⟩
    exact ⟨_, by rw [h], q⟩
def Put3 (γ : En) (i j k : Nat) (ts : List T) [K : KG] : Prop := ∃ t u w, ts = [t, u, w] ∧ K.ap (((γ.set i (some t)).set j (some u)).set k (some w))
theorem put3_3 {w : T} : @Put3 γ i j k [t, u, w] Kg = @Put γ i (some t) ⟨fun γ1 => @Put γ1 j (some u) ⟨fun γ2 => @Put γ2 k (some w) Kg⟩⟩ := by simp [Put3, Put, and_assoc]
theorem ws_par3 {a : Ax} : @WS (sPar3 i j k a) γ Q = @WA a γ ⟨fun ts γ' => @Put3 γ' i j k ts ⟨fun γ2 => Q.ap (.nx γ2)⟩⟩ := by
  unfold WS WA Put3 sPar3
  refine propext ⟨?_, ?_⟩
  · rintro ⟨o, h, q⟩
    split at h
    · rename_i h1; cases h; exact ⟨_, _, h1, _, _, _, rfl, q⟩
    · cases h
  · rintro ⟨ts, γ', h, t, u, w, rfl, q⟩
    exact ⟨_, by rw [h], q⟩
def gSt (l k v : T) : Option T := match l, k with
  | .lst ts, .int k => (ixN ts.length k).map fun j => .lst (ts.set j v)
  | _, _ => none
theorem ws_setI {fv fi : Ex} : @WS (sSetI i fv fi) γ Q = @WE fv γ ⟨fun v γ1 => @Get γ1 i ⟨fun _ => @WE fi γ1 ⟨fun k γ2 => @Get γ2 i ⟨fun l => @WO (gSt l k v) ⟨fun l' => @Put γ2 i (some l') ⟨fun γ3 => Q.ap (.nx γ3)⟩⟩⟩⟩⟩⟩ := by
  unfold WS WE WO Get Put sSetI
  refine propext ⟨?_, ?_⟩
  · rintro ⟨o, h, q⟩
    obtain ⟨⟨x, γ1⟩, h1, h⟩ := Option.bind_eq_some_iff.mp h
    dsimp only at h
    split at h
    · rename_i t0 h0
      obtain ⟨⟨y, γ2⟩, h2, h⟩ := Option.bind_eq_some_iff.mp h
      dsimp only at h
      split at h
      · rename_i ts k h3
        obtain ⟨j, h4, h⟩ := Option.map_eq_some_iff.mp h
        cases h
        exact ⟨x, γ1, h1, t0, h0, _, γ2, h2, _, h3, .lst (ts.set j x), by simp [gSt, h4], q⟩
      · cases h
    · cases h
  · rintro ⟨x, γ1, h1, t0, h0, y, γ2, h2, l, h3, l', h4, q⟩
    unfold gSt at h4
    split at h4
    · rename_i ts k
      obtain ⟨j, h5, h⟩ := Option.map_eq_some_iff.mp h4
      refine ⟨_, ?_, q⟩
      rw [h1, Option.bind_some]
      dsimp only
      rw [h0]
      dsimp only
      rw [h2, Option.bind_some]
      dsimp only
      rw [h3]
      dsimp only
      rw [h5]
      dsimp only [Option.map_some]
      rw [h]
    · cases h4
theorem ws_for {src : Ix} {tg : T → En → Option En} : @WS (sFor src tg F) γ Q = @WI src γ ⟨fun ts γ' => @WF tg F ts γ' Q⟩ := by
  unfold WS WI WF sFor
  refine propext ⟨?_, ?_⟩
  · rintro ⟨o, h, q⟩
    obtain ⟨⟨x, γ1⟩, h1, h⟩ := Option.bind_eq_some_iff.mp h
    exact ⟨x, γ1, h1, o, h, q⟩
  · rintro ⟨x, γ1, h1, o, h, q⟩
    exact ⟨o, by rw [h1]; exact h, q⟩
theorem ws_while : @WS (sWhile cc F) γ Q = @WW cc F γ Q := rfl
theorem wg_n : @WG (tgN i) t γ Kg = @Put γ i (some t) Kg := by simp [WG, Put]
theorem wg_seqT {n : Nat} {h : TgT} : @WG (tgSeq n h) (.tup ts) γ Kg = @Sd (ts.length = n) ⟨@WGs h ts γ Kg⟩ := by
  unfold WG WGs tgSeq
  refine propext ⟨?_, ?_⟩
  · rintro ⟨γ', h, q⟩
    dsimp only at h
    split at h
    · rename_i hl; exact ⟨hl, γ', h, q⟩
    · cases h
  · rintro ⟨hl, γ', h, q⟩
    exact ⟨γ', by dsimp only; rw [if_pos hl]; exact h, q⟩
theorem wg_seqL {n : Nat} {h : TgT} : @WG (tgSeq n h) (.lst ts) γ Kg = @Sd (ts.length = n) ⟨@WGs h ts γ Kg⟩ := by
  unfold WG WGs tgSeq
  refine propext ⟨?_, ?_⟩
  · rintro ⟨γ', h, q⟩
    dsimp only at h
    split at h
    · rename_i hl; exact ⟨hl, γ', h, q⟩
    · cases h
  · rintro ⟨hl, γ', h, q⟩
    exact ⟨γ', by dsimp only; rw [if_pos hl]; exact h, q⟩
theorem wgs_nil : @WGs tgNil [] γ Kg = Kg.ap γ := by simp [WGs]
theorem wgs_cons {g : T → En → Option En} {h : TgT} : @WGs (tgCons g h) (t :: ts) γ Kg = @WG g t γ ⟨fun γ' => @WGs h ts γ' Kg⟩ := by
  unfold WGs WG tgCons
  refine propext ⟨?_, ?_⟩
  · rintro ⟨γ', h, q⟩
    obtain ⟨γ1, h1, h⟩ := Option.bind_eq_some_iff.mp h
    exact ⟨γ1, h1, γ', h, q⟩
  · rintro ⟨γ1, h1, γ', h, q⟩
    exact ⟨γ', by dsimp only; rw [h1]; exact h, q⟩
/-! what is walked -/
def sL : T → Option (List T)
  | .lst ts => some ts
  | _ => none
def sT : T → Option (List T)
  | .tup ts => some ts
  | _ => none
def sO : T → Option (List T)
  | .old ts => some ts
  | _ => none
def sA : T → Option (List T)
  | .lst ts => some ts
  | .tup ts => some ts
  | _ => none
def sE : T → Option (List T)
  | .lst ts => some (enuT ts)
  | _ => none
def sR1 : List T → Option (List T)
  | [.int j] => if -4611686018427387904 ≤ j ∧ j < 4611686018427387904 then some (rngT 0 j.toNat) else none
  | _ => none
def sR2 : List T → Option (List T)
  | [.int i, .int j] => if -4611686018427387904 ≤ i ∧ i < 4611686018427387904 ∧ -4611686018427387904 ≤ j ∧ j < 4611686018427387904 then some (rngT i (j - i).toNat) else none
  | _ => none
def sR3 : List T → Option (List T)
  | [.int i, .int j, .int c] => if c ≠ 0 ∧ c.natAbs < 1073741824 ∧ Builtin.Range.small i j c = true then some (rngC i c (Builtin.Range.rangeSize i j c).toNat) else none
  | _ => none
theorem wi_gen {s : Ix} {z : T → Option (List T)} (h : ∀ γ, s γ = (f γ).bind fun p => (z p.1).map fun r => (r, p.2)) : @WI s γ Ka = @WE f γ ⟨fun t γ' => @WL (z t) ⟨fun r => Ka.ap r γ'⟩⟩ := by
  unfold WI WE WL
  rw [h]
  refine propext ⟨?_, ?_⟩
  · rintro ⟨t, γ', h, q⟩
    obtain ⟨⟨x, γ1⟩, h1, h⟩ := Option.bind_eq_some_iff.mp h
    obtain ⟨z, h3, h⟩ := Option.map_eq_some_iff.mp h
    cases h
    exact ⟨x, γ1, h1, _, h3, q⟩
  · rintro ⟨x, γ1, h1, z, h3, q⟩
    exact ⟨z, γ1, by rw [h1, Option.bind_some]; dsimp only; rw [h3]; rfl, q⟩
theorem wi_genA {a : Ax} {s : Ix} {z : List T → Option (List T)} (h : ∀ γ, s γ = (a γ).bind fun p => (z p.1).map fun r => (r, p.2)) : @WI s γ Ka = @WA a γ ⟨fun t γ' => @WL (z t) ⟨fun r => Ka.ap r γ'⟩⟩ := by
  unfold WI WA WL
  rw [h]
  refine propext ⟨?_, ?_⟩
  · rintro ⟨t, γ', h, q⟩
    obtain ⟨⟨x, γ1⟩, h1, h⟩ := Option.bind_eq_some_iff.mp h
    obtain ⟨z, h3, h⟩ := Option.map_eq_some_iff.mp h
    cases h
    exact ⟨x, γ1, h1, _, h3, q⟩
  · rintro ⟨x, γ1, h1, z, h3, q⟩
    exact ⟨z, γ1, by rw [h1, Option.bind_some]; dsimp only; rw [h3]; rfl, q⟩
theorem wi_seq : @WI (iSeq f) γ Ka = @WE f γ ⟨fun t γ' => @WL (sL t) ⟨fun r => Ka.ap r γ'⟩⟩ := wi_gen fun γ => by
  unfold iSeq
  rcases f γ with _ | ⟨t, γ'⟩
  · rfl
  · cases t <;> rfl
theorem wi_tupl : @WI (iTupl f) γ Ka = @WE f γ ⟨fun t γ' => @WL (sT t) ⟨fun r => Ka.ap r γ'⟩⟩ := wi_gen fun γ => by
  unfold iTupl
  rcases f γ with _ | ⟨t, γ'⟩
  · rfl
  · cases t <;> rfl
theorem wi_old : @WI (iOld f) γ Ka = @WE f γ ⟨fun t γ' => @WL (sO t) ⟨fun r => Ka.ap r γ'⟩⟩ := wi_gen fun γ => by
  unfold iOld
  rcases f γ with _ | ⟨t, γ'⟩
  · rfl
  · cases t <;> rfl
theorem wi_any : @WI (iAny f) γ Ka = @WE f γ ⟨fun t γ' => @WL (sA t) ⟨fun r => Ka.ap r γ'⟩⟩ := wi_gen fun γ => by
  unfold iAny
  rcases f γ with _ | ⟨t, γ'⟩
  · rfl
  · cases t <;> rfl
theorem wi_enu : @WI (iEnu f) γ Ka = @WE f γ ⟨fun t γ' => @WL (sE t) ⟨fun r => Ka.ap r γ'⟩⟩ := wi_gen fun γ => by
  unfold iEnu
  rcases f γ with _ | ⟨t, γ'⟩
  · rfl
  · cases t <;> rfl
theorem wi_r1 {a : Ax} : @WI (iR1 a) γ Ka = @WA a γ ⟨fun t γ' => @WL (sR1 t) ⟨fun r => Ka.ap r γ'⟩⟩ := wi_genA fun γ => by
  unfold iR1
  rcases a γ with _ | ⟨t, γ'⟩
  · rfl
  · dsimp only [Option.bind_some]
    unfold sR1
    split
    · rename_i h; cases h; dsimp only; split <;> rfl
    · rename_i h
      split
      · rename_i j; exact absurd rfl (h j γ')
      · rfl
theorem wi_r2 {a : Ax} : @WI (iR2 a) γ Ka = @WA a γ ⟨fun t γ' => @WL (sR2 t) ⟨fun r => Ka.ap r γ'⟩⟩ := wi_genA fun γ => by
  unfold iR2
  rcases a γ with _ | ⟨t, γ'⟩
  · rfl
  · dsimp only [Option.bind_some]
    unfold sR2
    split
    · rename_i h; cases h; dsimp only; split <;> rfl
    · rename_i h
      split
      · rename_i i j; exact absurd rfl (h i j γ')
      · rfl
theorem wi_r3 {a : Ax} : @WI (iR3 a) γ Ka = @WA a γ ⟨fun t γ' => @WL (sR3 t) ⟨fun r => Ka.ap r γ'⟩⟩ := wi_genA fun γ => by
  unfold iR3
  rcases a γ with _ | ⟨t, γ'⟩
  · rfl
  · dsimp only [Option.bind_some]
    unfold sR3
    split
    · rename_i h; cases h; dsimp only; split <;> rfl
    · rename_i h
      split
      · rename_i i j c; exact absurd rfl (h i j c γ')
      · rfl
def sZ : T → T → Option (List T)
  | .lst ts, .lst us => some (zipT ts us)
  | _, _ => none
theorem wi_zip : @WI (iZipL a b) γ Ka = @WE a γ ⟨fun x γ1 => @WE b γ1 ⟨fun y γ2 => @WL (sZ x y) ⟨fun r => Ka.ap r γ2⟩⟩⟩ := by
  unfold WI WE WL iZipL
  refine propext ⟨?_, ?_⟩
  · rintro ⟨t, γ', h, q⟩
    split at h
    · rename_i ts γ1 h1
      split at h
      · rename_i us γ2 h2
        cases h
        exact ⟨_, _, h1, _, _, h2, _, rfl, q⟩
      · cases h
    · cases h
  · rintro ⟨x, γ1, h1, y, γ2, h2, z, h3, q⟩
    unfold sZ at h3
    split at h3
    · cases h3
      exact ⟨_, γ2, by rw [h1]; dsimp only; rw [h2], q⟩
    · cases h3
theorem we_comp {own : List Nat} {src : Ix} {tg : T → En → Option En} {test : Tx} {elt : Ex} : @WE (eComp own src tg test elt) γ Ke = @WI src γ ⟨fun ts γ' => @WCo own tg test elt ts γ' ⟨fun us γ2 => Ke.ap (.lst us) γ2⟩⟩ := by
  unfold WE WI WCo eComp
  refine propext ⟨?_, ?_⟩
  · rintro ⟨t, γ', h, q⟩
    obtain ⟨⟨x, γ1⟩, h1, h⟩ := Option.bind_eq_some_iff.mp h
    obtain ⟨⟨us, γ2⟩, h3, h⟩ := Option.map_eq_some_iff.mp h
    cases h
    exact ⟨x, γ1, h1, us, _, h3, q⟩
  · rintro ⟨x, γ1, h1, us, γ2, h3, q⟩
    exact ⟨_, γ2, by rw [h1, Option.bind_some]; dsimp only; rw [h3]; rfl, q⟩
def Two' (i j : T) [K : KL] : Prop := ∃ a b, i = .int a ∧ j = .int b ∧ (-4611686018427387904 ≤ a ∧ a < 4611686018427387904 ∧ -4611686018427387904 ≤ b ∧ b < 4611686018427387904 ∧ (b - a).toNat ≤ 16777216) ∧ K.ap (rngT a (b - a).toNat)
theorem two'_i : @Two' (.int ii) (.int jj) Kl = @Sd (-4611686018427387904 ≤ ii ∧ ii < 4611686018427387904 ∧ -4611686018427387904 ≤ jj ∧ jj < 4611686018427387904 ∧ (jj - ii).toNat ≤ 16777216) ⟨Kl.ap (rngT ii (jj - ii).toNat)⟩ := by
  refine propext ⟨?_, ?_⟩
  · rintro ⟨a, b, h1, h2, h3, h4⟩
    cases h1; cases h2
    exact ⟨h3, h4⟩
  · rintro ⟨h3, h4⟩
    exact ⟨_, _, rfl, rfl, h3, h4⟩
theorem we_lr1 : @WE (eListR (rx1 f)) γ Ke = @WE f γ ⟨fun t γ' => @Two' (.int 0) t ⟨fun us => Ke.ap (.lst us) γ'⟩⟩ := by
  unfold WE Two' eListR rx1
  refine propext ⟨?_, ?_⟩
  · rintro ⟨t, γ', h, q⟩
    obtain ⟨⟨i, j, γ1⟩, h1, h⟩ := Option.bind_eq_some_iff.mp h
    split at h1
    · rename_i h2
      cases h1
      dsimp only at h
      split at h
      · rename_i h3
        cases h
        exact ⟨_, _, h2, 0, _, rfl, rfl, h3, q⟩
      · cases h
    · cases h1
  · rintro ⟨t, γ', h, a, b, h1, rfl, h3, q⟩
    cases h1
    exact ⟨_, γ', by rw [h]; dsimp only [Option.bind_some]; exact if_pos h3, q⟩
theorem we_lr2 : @WE (eListR (rx2 f1 f2)) γ Ke = @WE f1 γ ⟨fun t γ1 => @WE f2 γ1 ⟨fun u γ' => @Two' t u ⟨fun us => Ke.ap (.lst us) γ'⟩⟩⟩ := by
  unfold WE Two' eListR rx2
  refine propext ⟨?_, ?_⟩
  · rintro ⟨t, γ', h, q⟩
    obtain ⟨⟨i, j, γ1⟩, h1, h⟩ := Option.bind_eq_some_iff.mp h
    obtain ⟨⟨x, γ2⟩, h2, h1⟩ := Option.bind_eq_some_iff.mp h1
    obtain ⟨⟨y, γ3⟩, h4, h1⟩ := Option.bind_eq_some_iff.mp h1
    dsimp only at h1
    split at h1
    · cases h1
      dsimp only at h
      split at h
      · rename_i h3
        cases h
        exact ⟨_, _, h2, _, _, h4, _, _, rfl, rfl, h3, q⟩
      · cases h
    · cases h1
  · rintro ⟨t, γ1, h, u, γ', h2, a, b, rfl, rfl, h3, q⟩
    exact ⟨_, γ', by rw [h]; dsimp only [Option.bind_some]; rw [h2]; dsimp only [Option.bind_some]; exact if_pos h3, q⟩
/-! a def -/
def iniE : Nat → List T → En
  | n, t :: ts => some t :: iniE (n - 1) ts
  | n, [] => List.replicate n none
def Ini (n : Nat) (ts : List T) [K : KG] : Prop := K.ap (ts.map some ++ List.replicate (n - ts.length) none)
theorem ini_0 : @Ini 0 [] Kg = Kg.ap [] := rfl
theorem ini_n : @Ini (n + 1) [] Kg = @Ini n [] ⟨fun γ => Kg.ap (none :: γ)⟩ := rfl
theorem ini_s : @Ini (n + 1) (t :: ts) Kg = @Ini n ts ⟨fun γ => Kg.ap (some t :: γ)⟩ := by
  unfold Ini
  rw [List.length_cons, Nat.add_sub_add_right]
  rfl
theorem wc_sem {pl : List Nat} : @WC (semOf n pl F ts) Kc = @Ini n ts ⟨fun γ => @WS F γ (finK pl Kc)⟩ := by
  unfold WC Ini WS semOf
  refine propext ⟨?_, ?_⟩
  · rintro ⟨t, u, h, q⟩
    split at h
    · rename_i h1; cases h; exact ⟨_, h1, q⟩
    · rename_i h1; cases h; exact ⟨_, h1, q⟩
    · cases h
  · rintro ⟨o, h, q⟩
    cases o with
    | nx γ => exact ⟨_, _, by rw [h], q⟩
    | rt t γ => exact ⟨_, _, by rw [h], q⟩
    | bk γ => exact q.elim
    | ct γ => exact q.elim
def semT (o : Option (T × List T)) (t : T) (us : List T) : Prop := o = some (t, us)
theorem wc_eq {o : Option (T × List T)} (h : @WC o ⟨fun t' us' => t' = t ∧ us' = us⟩) : o = some (t, us) := by
  obtain ⟨_, _, h, rfl, rfl⟩ := h
  exact h
theorem wc_of {o : Option (T × List T)} (h : o = some (t, us)) (k : Kc.ap t us) : @WC o Kc := ⟨t, us, h, k⟩
theorem wo_of {o : Option T} (h : o = some t) (k : Kt.ap t) : @WO o Kt := ⟨t, h, k⟩
theorem wc_mono {o : Option (T × List T)} {P : T → List T → Prop} (h : @WC o ⟨P⟩) (k : ∀ t us, P t us → Kc.ap t us) : @WC o Kc := by
  obtain ⟨t, us, h, q⟩ := h
  exact ⟨t, us, h, k t us q⟩
theorem ws_mono {P : Out → Prop} (h : @WS F γ ⟨P⟩) (k : ∀ o, P o → Q.ap o) : @WS F γ Q := by
  obtain ⟨o, h, q⟩ := h
  exact ⟨o, h, k o q⟩
/-- what stands behind F1, told once -/
theorem ws_cut (R : En → Prop) (h : @WS F1 γ ⟨fun o => ∃ γ', o = .nx γ' ∧ R γ'⟩) (k : ∀ γ', R γ' → @WS F2 γ' Q) : @WS (sSeq F1 F2) γ Q := by
  rw [ws_seq]
  refine ws_mono h ?_
  rintro o ⟨γ', rfl, hr⟩
  exact k γ' hr
theorem br_i (h1 : bb = true → A.ap) (h2 : bb = false → B.ap) : @Br bb A B := ⟨h1, h2⟩
theorem br_d {p : Prop} [Decidable p] (h1 : p → A.ap) (h2 : ¬p → B.ap) : @Br (decide p) A B := ⟨fun h => h1 (of_decide_eq_true h), fun h => h2 (of_decide_eq_false h)⟩
theorem sd_i {p : Prop} (h1 : p) (h2 : A.ap) : @Sd p A := ⟨h1, h2⟩
/-- two ways that come together, with one slot stored -/
theorem br_set (i : Nat) (P : T → Prop) (h1 : bb = true → @WS F1 γ ⟨fun o => ∃ t, o = .nx (γ.set i (some t)) ∧ P t⟩) (h2 : bb = false → @WS F2 γ ⟨fun o => ∃ t, o = .nx (γ.set i (some t)) ∧ P t⟩)
    (k : ∀ t, P t → @Put γ i (some t) ⟨fun γ' => @WS F γ' Q⟩) : @Br bb ⟨@WS F1 γ (seqK F Q)⟩ ⟨@WS F2 γ (seqK F Q)⟩ := by
  refine ⟨fun e => ?_, fun e => ?_⟩
  · refine ws_mono (h1 e) ?_
    rintro o ⟨t, rfl, ht⟩
    exact k t ht
  · refine ws_mono (h2 e) ?_
    rintro o ⟨t, rfl, ht⟩
    exact k t ht
theorem br_join (R : En → Prop) (h1 : bb = true → @WS F1 γ ⟨fun o => ∃ γ', o = .nx γ' ∧ R γ'⟩) (h2 : bb = false → @WS F2 γ ⟨fun o => ∃ γ', o = .nx γ' ∧ R γ'⟩)
    (k : ∀ γ', R γ' → @WS F γ' Q) : @Br bb ⟨@WS F1 γ (seqK F Q)⟩ ⟨@WS F2 γ (seqK F Q)⟩ := by
  refine ⟨fun e => ?_, fun e => ?_⟩
  · refine ws_mono (h1 e) ?_
    rintro o ⟨γ', rfl, ht⟩
    exact k γ' ht
  · refine ws_mono (h2 e) ?_
    rintro o ⟨γ', rfl, ht⟩
    exact k γ' ht
/-! loops -/
theorem wf_nil {tg : T → En → Option En} : @WF tg F [] γ Q = Q.ap (.nx γ) := by simp [WF, forL]
theorem wf_cons {tg : T → En → Option En} : @WF tg F (t :: ts) γ Q = @WG tg t γ ⟨fun γ1 => @WS F γ1 (lpK (fun γ2 => @WF tg F ts γ2 Q) Q)⟩ := by
  refine propext ⟨?_, ?_⟩
  · rintro ⟨o, h, q⟩
    conv at h => lhs; unfold forL
    obtain ⟨γ1, h1, h⟩ := Option.bind_eq_some_iff.mp h
    refine ⟨γ1, h1, ?_⟩
    split at h
    · rename_i h2; exact ⟨_, h2, o, h, q⟩
    · rename_i h2; exact ⟨_, h2, o, h, q⟩
    · rename_i h2; cases h; exact ⟨_, h2, q⟩
    · rename_i n1 n2 n3
      refine ⟨o, h, ?_⟩
      cases o with
      | nx γ' => exact absurd h (n1 γ')
      | ct γ' => exact absurd h (n2 γ')
      | bk γ' => exact absurd h (n3 γ')
      | rt t γ' => exact q
  · rintro ⟨γ1, h1, o, h2, q⟩
    cases o with
    | nx γ' => obtain ⟨o, h3, q⟩ := q; exact ⟨o, by rw [forL_cons h1, h2]; exact h3, q⟩
    | ct γ' => obtain ⟨o, h3, q⟩ := q; exact ⟨o, by rw [forL_cons h1, h2]; exact h3, q⟩
    | bk γ' => exact ⟨_, by rw [forL_cons h1, h2], q⟩
    | rt t γ' => exact ⟨_, by rw [forL_cons h1, h2], q⟩
end
theorem wf_for {tg : T → En → Option En} {F : Fs} {Q : KQ} : ∀ {ts : List T} {γ : En} (I : Nat → En → Prop), I 0 γ → (∀ (i : Nat) (t : T) (γ : En), ts[i]? = some t → I i γ → @WG tg t γ ⟨fun γ1 => @WS F γ1 (lpK (I (i + 1)) Q)⟩) →
    (∀ γ, I ts.length γ → Q.ap (.nx γ)) → @WF tg F ts γ Q
  | [], γ, I, h0, _, he => ⟨.nx γ, rfl, he γ h0⟩
  | t :: ts, γ, I, h0, hs, he => by
    obtain ⟨γ1, h1, o, h2, q⟩ := hs 0 t γ rfl h0
    cases o with
    | nx γ2 =>
      obtain ⟨o, h3, q3⟩ := wf_for (ts := ts) (fun n => I (n + 1)) q (fun i t γ hi => hs (i + 1) t γ hi) he
      exact ⟨o, by rw [forL_cons h1, h2]; exact h3, q3⟩
    | ct γ2 =>
      obtain ⟨o, h3, q3⟩ := wf_for (ts := ts) (fun n => I (n + 1)) q (fun i t γ hi => hs (i + 1) t γ hi) he
      exact ⟨o, by rw [forL_cons h1, h2]; exact h3, q3⟩
    | bk γ2 => exact ⟨_, by rw [forL_cons h1, h2], q⟩
    | rt t γ2 => exact ⟨_, by rw [forL_cons h1, h2], q⟩
theorem wf_rng {tg : T → En → Option En} {F : Fs} {Q : KQ} {lo : Int} {n : Nat} {γ : En} (I : Nat → En → Prop) (h0 : I 0 γ) (hs : ∀ (i : Nat) (γ : En), i < n → I i γ → @WG tg (.int (lo + i)) γ ⟨fun γ1 => @WS F γ1 (lpK (I (i + 1)) Q)⟩)
    (he : ∀ γ, I n γ → Q.ap (.nx γ)) : @WF tg F (rngT lo n) γ Q := wf_for I h0 (fun i t γ hi hI => by
  obtain ⟨h1, rfl⟩ := rngT_get hi
  exact hs i γ h1 hI) (by rw [rngT_len]; exact he)
theorem wf_map {α : Type} {xs : List α} {e : α → T} {tg : T → En → Option En} {F : Fs} {Q : KQ} {γ : En} (I : Nat → En → Prop) (h0 : I 0 γ) (hs : ∀ (i : Nat) (γ : En) (h : i < xs.length), I i γ → @WG tg (e xs[i]) γ ⟨fun γ1 => @WS F γ1 (lpK (I (i + 1)) Q)⟩)
    (he : ∀ γ, I xs.length γ → Q.ap (.nx γ)) : @WF tg F (xs.map e) γ Q := wf_for I h0 (fun i t γ hi hI => by
  rw [List.getElem?_map] at hi
  obtain ⟨x, hx, rfl⟩ := Option.map_eq_some_iff.mp hi
  obtain ⟨h, rfl⟩ := List.getElem?_eq_some_iff.mp hx
  exact hs i γ h hI) (by rw [List.length_map]; exact he)
/-- one that keeps what it knows -/
theorem wf_all {tg : T → En → Option En} {F : Fs} {Q : KQ} {ts : List T} {γ : En} (I : En → Prop) (h0 : I γ) (hs : ∀ (t : T) (γ : En), t ∈ ts → I γ → @WG tg t γ ⟨fun γ1 => @WS F γ1 (lpK I Q)⟩)
    (he : ∀ γ, I γ → Q.ap (.nx γ)) : @WF tg F ts γ Q := wf_for (fun _ => I) h0 (fun i t γ hi hI => hs t γ (List.mem_of_getElem? hi) hI) he
theorem ww_of {c : Tx} {F : Fs} {Q : KQ} (I : Nat → En → Prop) (hs : ∀ (n : Nat) (γ : En), I n γ → @WT c γ ⟨fun b γ1 => @Br b ⟨@WS F γ1 (lpK (fun γ2 => ∃ k, k < n ∧ I k γ2) Q)⟩ ⟨Q.ap (.nx γ1)⟩⟩) (m : Nat) {γ : En} (h0 : I m γ) : @WW c F γ Q := by
  suffices key : ∀ (m : Nat) (γ : En), I m γ → ∃ o n, whileN c F n γ = some o ∧ Q.ap o by
    obtain ⟨o, n, h, q⟩ := key m γ h0
    exact ⟨o, sWhile_of h, q⟩
  intro m
  induction m using Nat.strongRecOn with
  | ind m ih =>
    intro γ hI
    obtain ⟨b, γ1, h1, hb⟩ := hs m γ hI
    cases b with
    | false => exact ⟨_, 1, by unfold whileN; rw [h1]; rfl, hb.f rfl⟩
    | true =>
      obtain ⟨o, h2, q⟩ := hb.t rfl
      cases o with
      | nx γ2 =>
        obtain ⟨k, hk, hI⟩ := q
        obtain ⟨o, n, h3, q3⟩ := ih k hk γ2 hI
        exact ⟨o, n + 1, by conv => lhs; unfold whileN
                            rw [h1]; simp only [Option.bind_some, if_true, h2, h3], q3⟩
      | ct γ2 =>
        obtain ⟨k, hk, hI⟩ := q
        obtain ⟨o, n, h3, q3⟩ := ih k hk γ2 hI
        exact ⟨o, n + 1, by conv => lhs; unfold whileN
                            rw [h1]; simp only [Option.bind_some, if_true, h2, h3], q3⟩
      | bk γ2 => exact ⟨_, 1, by conv => lhs; unfold whileN
                                 rw [h1]; simp only [Option.bind_some, if_true, h2], q⟩
      | rt t γ2 => exact ⟨_, 1, by conv => lhs; unfold whileN
                                   rw [h1]; simp only [Option.bind_some, if_true, h2], q⟩
/-! comprehensions -/
theorem sizeLine_eq : sizeLine = 16777216 := Eq.symm (Eq.symm rfl)
theorem okMul_lit {i j : Int} (h : j.natAbs < 18446744073709551616) : okMul i j = true := okMul_r h
theorem okMul_lit2 {i j : Int} (h : i.natAbs < 18446744073709551616) : okMul i j = true := by
  unfold okMul
  simp [h]
theorem okDiv_lit {j : Int} (h0 : j ≠ 0) (h : j.natAbs < 18446744073709551616) : okDiv j = true := okDiv_of (m := 64) h0 h (by decide)
theorem compL_gen {own : List Nat} {tg : T → En → Option En} {test : Tx} {elt : Ex} : ∀ {ts : List T} {γ : En} {acc : List T} (I : Nat → List T → En → Prop), acc.length + ts.length ≤ sizeLine → I 0 acc γ →
    (∀ (i : Nat) (t : T) (acc : List T) (γ : En), ts[i]? = some t → I i acc γ → @WG tg t (wipeE γ own) ⟨fun γ1 => @WT test γ1 ⟨fun b γ2 => @Br b ⟨@WE elt γ2 ⟨fun u γ3 => I (i + 1) (acc ++ [u]) (backE γ γ3 own)⟩⟩ ⟨I (i + 1) acc (backE γ γ2 own)⟩⟩⟩) →
    ∃ us γ', compL own tg test elt ts γ acc = some (us, γ') ∧ I ts.length us γ'
  | [], γ, acc, I, _, h0, _ => ⟨acc, γ, rfl, h0⟩
  | t :: ts, γ, acc, I, hl, h0, hs => by
    obtain ⟨γ1, h1, b, γ2, h2, hb⟩ := hs 0 t acc γ rfl h0
    cases b with
    | false =>
      obtain ⟨us, γ', h3, q⟩ := compL_gen (ts := ts) (acc := acc) (fun n => I (n + 1)) (by simp at hl ⊢; omega) (hb.f rfl) (fun i t acc γ hi => hs (i + 1) t acc γ hi)
      refine ⟨us, γ', ?_, q⟩
      conv => lhs; unfold compL
      rw [h1, Option.bind_some, h2, Option.bind_some]
      exact h3
    | true =>
      obtain ⟨u, γ3, h4, q⟩ := hb.t rfl
      obtain ⟨us, γ', h3, q⟩ := compL_gen (ts := ts) (acc := acc ++ [u]) (fun n => I (n + 1)) (by simp at hl ⊢; omega) q (fun i t acc γ hi => hs (i + 1) t acc γ hi)
      refine ⟨us, γ', ?_, q⟩
      conv => lhs; unfold compL
      rw [h1, Option.bind_some, h2, Option.bind_some]
      dsimp only
      rw [if_pos rfl, h4, Option.bind_some]
      dsimp only
      rw [if_pos (by simp at hl; omega)]
      exact h3
section
variable {own : List Nat} {tg : T → En → Option En} {test : Tx} {elt : Ex} {ts : List T} {γ : En} {K : KA}
theorem wco_for (I : Nat → List T → En → Prop) (hl : ts.length ≤ sizeLine) (h0 : I 0 [] γ)
    (hs : ∀ (i : Nat) (t : T) (acc : List T) (γ : En), ts[i]? = some t → I i acc γ → @WG tg t (wipeE γ own) ⟨fun γ1 => @WT test γ1 ⟨fun b γ2 => @Br b ⟨@WE elt γ2 ⟨fun u γ3 => I (i + 1) (acc ++ [u]) (backE γ γ3 own)⟩⟩ ⟨I (i + 1) acc (backE γ γ2 own)⟩⟩⟩)
    (k : ∀ us γ', I ts.length us γ' → K.ap us γ') : @WCo own tg test elt ts γ K := by
  obtain ⟨us, γ', h, q⟩ := compL_gen (acc := []) I (by simpa using hl) h0 hs
  exact ⟨us, γ', h, k us γ' q⟩
theorem take_fm {f : T → Option T} {ts : List T} {i : Nat} {t : T} (h : ts[i]? = some t) : (ts.take (i + 1)).filterMap f = (ts.take i).filterMap f ++ (f t).toList := by
  rw [List.take_add_one, h, List.filterMap_append]
  cases hf : f t <;> simp [hf]
/-- one that changes nothing, with a test -/
theorem wco_fm (f : T → Option T) (hl : ts.length ≤ sizeLine)
    (hs : ∀ t ∈ ts, @WG tg t (wipeE γ own) ⟨fun γ1 => @WT test γ1 ⟨fun b γ2 => @Br b ⟨@WE elt γ2 ⟨fun u γ3 => f t = some u ∧ backE γ γ3 own = γ⟩⟩ ⟨f t = none ∧ backE γ γ2 own = γ⟩⟩⟩)
    (k : K.ap (ts.filterMap f) γ) : @WCo own tg test elt ts γ K := by
  refine wco_for (fun i acc γ' => acc = (ts.take i).filterMap f ∧ γ' = γ) hl (by simp) ?_ ?_
  · rintro i t acc γ' hi ⟨rfl, rfl⟩
    obtain ⟨γ1, h1, b, γ2, h2, hb⟩ := hs t (List.mem_of_getElem? hi)
    refine ⟨γ1, h1, b, γ2, h2, fun e => ?_, fun e => ?_⟩
    · obtain ⟨u, γ3, h3, h4, h5⟩ := hb.t e
      exact ⟨u, γ3, h3, by rw [take_fm hi, h4]; rfl, h5⟩
    · obtain ⟨h4, h5⟩ := hb.f e
      exact ⟨by rw [take_fm hi, h4]; simp, h5⟩
  · rintro us γ' ⟨rfl, rfl⟩
    rw [List.take_length]
    exact k
theorem wco_map (f : T → T) (hl : ts.length ≤ sizeLine)
    (hs : ∀ t ∈ ts, @WG tg t (wipeE γ own) ⟨fun γ1 => @WT test γ1 ⟨fun b γ2 => @Br b ⟨@WE elt γ2 ⟨fun u γ3 => u = f t ∧ backE γ γ3 own = γ⟩⟩ ⟨False⟩⟩⟩)
    (k : K.ap (ts.map f) γ) : @WCo own tg test elt ts γ K := by
  refine wco_fm (fun t => some (f t)) hl (fun t ht => ?_) (by rw [List.filterMap_eq_map']; exact k)
  obtain ⟨γ1, h1, b, γ2, h2, hb⟩ := hs t ht
  refine ⟨γ1, h1, b, γ2, h2, fun e => ?_, fun e => (hb.f e).elim⟩
  obtain ⟨u, γ3, h3, h4, h5⟩ := hb.t e
  exact ⟨u, γ3, h3, by rw [h4], h5⟩
theorem wco_rng {lo : Int} {n : Nat} (f : Nat → T) (hl : n ≤ 16777216)
    (hs : ∀ i, i < n → @WG tg (.int (lo + i)) (wipeE γ own) ⟨fun γ1 => @WT test γ1 ⟨fun b γ2 => @Br b ⟨@WE elt γ2 ⟨fun u γ3 => u = f i ∧ backE γ γ3 own = γ⟩⟩ ⟨False⟩⟩⟩)
    (k : K.ap ((List.range n).map f) γ) : @WCo own tg test elt (rngT lo n) γ K := by
  refine wco_for (fun i acc γ' => acc = (List.range i).map f ∧ γ' = γ) (by rw [sizeLine_eq]; simpa using hl) (by simp) ?_ ?_
  · rintro i t acc γ' hi ⟨rfl, rfl⟩
    obtain ⟨hn, rfl⟩ := rngT_get hi
    obtain ⟨γ1, h1, b, γ2, h2, hb⟩ := hs i hn
    refine ⟨γ1, h1, b, γ2, h2, fun e => ?_, fun e => (hb.f e).elim⟩
    obtain ⟨u, γ3, h3, h4, h5⟩ := hb.t e
    exact ⟨u, γ3, h3, by rw [List.range_succ, List.map_append, h4]; rfl, h5⟩
  · rintro us γ' ⟨rfl, rfl⟩
    rw [rngT_len]
    exact k
theorem wco_mapx {α : Type} {xs : List α} {e : α → T} (f : α → T) (hl : xs.length ≤ 16777216)
    (hs : ∀ x ∈ xs, @WG tg (e x) (wipeE γ own) ⟨fun γ1 => @WT test γ1 ⟨fun b γ2 => @Br b ⟨@WE elt γ2 ⟨fun u γ3 => u = f x ∧ backE γ γ3 own = γ⟩⟩ ⟨False⟩⟩⟩)
    (k : K.ap (xs.map f) γ) : @WCo own tg test elt (xs.map e) γ K := by
  refine wco_for (fun i acc γ' => acc = (xs.take i).map f ∧ γ' = γ) (by rw [sizeLine_eq]; simpa using hl) (by simp) ?_ ?_
  · rintro i t acc γ' hi ⟨rfl, rfl⟩
    rw [List.getElem?_map] at hi
    obtain ⟨x, hx, rfl⟩ := Option.map_eq_some_iff.mp hi
    obtain ⟨γ1, h1, b, γ2, h2, hb⟩ := hs x (List.mem_of_getElem? hx)
    refine ⟨γ1, h1, b, γ2, h2, fun e => ?_, fun e => (hb.f e).elim⟩
    obtain ⟨u, γ3, h3, h4, h5⟩ := hb.t e
    exact ⟨u, γ3, h3, by rw [List.take_add_one, hx, List.map_append, h4]; rfl, h5⟩
  · rintro us γ' ⟨rfl, rfl⟩
    rw [List.length_map, List.take_length]
    exact k
theorem wco_fmx {α : Type} {xs : List α} {e : α → T} (f : α → Option T) (hl : xs.length ≤ 16777216)
    (hs : ∀ x ∈ xs, @WG tg (e x) (wipeE γ own) ⟨fun γ1 => @WT test γ1 ⟨fun b γ2 => @Br b ⟨@WE elt γ2 ⟨fun u γ3 => f x = some u ∧ backE γ γ3 own = γ⟩⟩ ⟨f x = none ∧ backE γ γ2 own = γ⟩⟩⟩)
    (k : K.ap (xs.filterMap f) γ) : @WCo own tg test elt (xs.map e) γ K := by
  refine wco_for (fun i acc γ' => acc = (xs.take i).filterMap f ∧ γ' = γ) (by rw [sizeLine_eq]; simpa using hl) (by simp) ?_ ?_
  · rintro i t acc γ' hi ⟨rfl, rfl⟩
    rw [List.getElem?_map] at hi
    obtain ⟨x, hx, rfl⟩ := Option.map_eq_some_iff.mp hi
    have tk : (xs.take (i + 1)).filterMap f = (xs.take i).filterMap f ++ (f x).toList := by
      rw [List.take_add_one, hx, List.filterMap_append]
      cases hf : f x <;> simp [hf]
    obtain ⟨γ1, h1, b, γ2, h2, hb⟩ := hs x (List.mem_of_getElem? hx)
    refine ⟨γ1, h1, b, γ2, h2, fun e => ?_, fun e => ?_⟩
    · obtain ⟨u, γ3, h3, h4, h5⟩ := hb.t e
      exact ⟨u, γ3, h3, by rw [tk, h4]; rfl, h5⟩
    · obtain ⟨h4, h5⟩ := hb.f e
      exact ⟨by rw [tk, h4]; simp, h5⟩
  · rintro us γ' ⟨rfl, rfl⟩
    rw [List.length_map, List.take_length]
    exact k
end
end Tw
namespace LawP
open Tw L2
/-! the draws, for running -/
theorem pool_w {ns : List Int} {K : KC} (k : ∀ p, Pool ns p → K.ap p []) : @WC (sem__law_pool [scr ns]) K := by
  obtain ⟨p, h, q⟩ := pool_spec ns
  exact wc_of h (k p q)
theorem next_w {ns : List Int} {p : T} {K : KC} (h : Pool ns p) (k : ∀ p', Pool ns p' → K.ap .non [p']) : @WC (sem__law_next [p]) K := by
  obtain ⟨p', e, q⟩ := next_spec h
  exact wc_of e (k p' q)
theorem draw_w {ns : List Int} {p : T} {K : KC} {n : Int} (h : Pool ns p) (hn : 0 < n) (hb : n < 18446744073709551616) (k : ∀ (v : Nat) (p' : T), Pool ns p' → (v : Int) < n → K.ap (.int v) [p']) : @WC (sem__law_draw [p, .int n]) K := by
  obtain ⟨v, p', e, q, h1, h2⟩ := draw_spec h hn hb
  obtain ⟨v, rfl⟩ := Int.eq_ofNat_of_zero_le h1
  exact wc_of e (k v p' q h2)
theorem pick_w {ns : List Int} {p : T} {K : KC} {ts : List T} (h : Pool ns p) (hn : ts ≠ []) (hb : ts.length < 18446744073709551616) (k : ∀ (v : T) (p' : T), Pool ns p' → v ∈ ts → K.ap v [p']) : @WC (sem__law_pick [p, .lst ts]) K := by
  obtain ⟨v, p', e, q, h1⟩ := pick_spec h hn hb
  exact wc_of e (k v p' q h1)
end LawP

local macro_rules
  | `(tactic| dsimp?) => `(tactic| dsimp? [true_and])
  | `(tactic| dsimp? [$a,*]) => `(tactic| simp only [↓Tw.we_lit, ↓Tw.we_var, ↓Tw.get_0, ↓Tw.get_s, ↓Tw.put_0, ↓Tw.put_s, ↓Tw.putA_0, ↓Tw.putA_s, ↓Tw.we_bin, ↓Tw.we_un, ↓Tw.we_call, ↓Tw.we_chain, ↓Tw.wt_of, ↓Tw.we_eof, ↓Tw.we_not, ↓Tw.we_and, ↓Tw.we_or, ↓Tw.wt_yes, ↓Tw.wt_not, ↓Tw.wt_and, ↓Tw.wt_or, ↓Tw.wt_tru, ↓Tw.we_if, ↓Tw.wa_nil, ↓Tw.wa_cons, ↓Tw.wa_io, ↓Tw.we_tup, ↓Tw.we_lst, ↓Tw.we_own, ↓Tw.wx_none, ↓Tw.wx_some, ↓Tw.we_sl, ↓Tw.we_mut, ↓Tw.ws_nx, ↓Tw.ws_seq, ↓Tw.ws_kill, ↓Tw.ws_asg, ↓Tw.ws_drop, ↓Tw.ws_ret, ↓Tw.ws_retN, ↓Tw.ws_brk, ↓Tw.ws_cnt, ↓Tw.ws_if, ↓Tw.ws_asgT, ↓Tw.two_2, ↓Tw.ws_par, ↓Tw.put3_3, ↓Tw.ws_par3, ↓Tw.ws_setI, ↓Tw.ws_for, ↓Tw.ws_while, ↓Tw.wg_n, ↓Tw.wg_seqT, ↓Tw.wg_seqL, ↓Tw.wgs_nil, ↓Tw.wgs_cons, ↓Tw.wi_seq, ↓Tw.wi_tupl, ↓Tw.wi_old, ↓Tw.wi_any, ↓Tw.wi_enu, ↓Tw.wi_r1, ↓Tw.wi_r2, ↓Tw.wi_r3, ↓Tw.wi_zip, ↓Tw.we_comp, ↓Tw.two'_i, ↓Tw.we_lr1, ↓Tw.we_lr2, ↓Tw.ini_0, ↓Tw.ini_n, ↓Tw.ini_s, ↓Tw.wc_sem, ↓Tw.seqK_nx, ↓Tw.seqK_rt, ↓Tw.seqK_bk, ↓Tw.seqK_ct, ↓Tw.lpK_nx, ↓Tw.lpK_rt, ↓Tw.lpK_bk, ↓Tw.lpK_ct, ↓Tw.finK_nx, ↓Tw.finK_rt, Tw.br_t, Tw.br_f, Tw.br_n, Tw.sd_t, Tw.wo_s, Tw.wl_s, Tw.wb_s, Tw.wm_s, Tw.wc_s, Tw.wo_if, Tw.wl_if, Tw.wm_if, Tw.isB_b, Tw.isI_i, Tw.r_truB, Tw.r_truI, Tw.r_truN, Tw.r_truL, Tw.r_isL, Tw.r_app, Tw.r_outs0, Tw.r_outs, Tw.r_wipe0, Tw.r_wipe, Tw.r_add, Tw.r_addL, Tw.r_addT, Tw.r_sub, Tw.r_mul, Tw.r_mod, Tw.r_div, Tw.r_pow, Tw.r_lt, Tw.r_le, Tw.r_gt, Tw.r_ge, Tw.r_neg, Tw.r_ixL, Tw.r_ixO, Tw.r_ixT, Tw.r_lenL, Tw.r_lenO, Tw.r_lenT, Tw.r_lenI, Tw.r_int, Tw.r_abs, Tw.r_gcd, Tw.r_lof, Tw.r_tofL, Tw.r_tofT, Tw.r_is, Tw.r_isnt, Tw.r_slT, Tw.r_slL, Tw.r_eqI, Tw.r_neI, Tw.atI_0, Tw.atI_1, Tw.atI_2, Tw.atI_3, Tw.atI_4, Tw.atI_5, Tw.isT_nn, Tw.isT_in, Tw.isT_bn, Tw.isT_sn, Tw.isT_tn, Tw.isT_ln, Tw.isT_bb, Tw.isT_nb, Tw.isT_ib, Tw.isT_sb, Tw.isT_tb, Tw.isT_lb, Tw.sL, Tw.sT, Tw.sO, Tw.sA, Tw.sE, Tw.sR1, Tw.sR2, Tw.sR3, Tw.sZ, Tw.gSt, Tw.okMul_lit, Tw.okMul_lit2, Tw.okDiv_lit, Tw.sizeLine_eq, Int.reduceNeg, Int.reduceAdd, Int.reduceMul, Int.reduceSub, Int.reduceLT, Int.reduceLE, Int.reduceGT, Int.reduceGE, Int.reduceEq, Int.reduceNe, Int.reduceAbs, Int.reduceToNat, Nat.reduceAdd, Nat.reduceMul, Nat.reduceSub, Nat.reduceLT, Nat.reduceLeDiff, Nat.reduceEqDiff, reduceCtorEq, ne_eq, eq_self, and_false, false_and, Bool.and_true, Bool.true_and, Bool.and_false, Bool.false_and, List.getElem?_cons_zero, List.getElem?_cons_succ, List.length_cons, List.length_nil, List.set_cons_zero, List.set_cons_succ, Option.map_some, Option.map_none, Option.bind_some, true_and, and_true, and_self, Tw.r_back0, Tw.r_back, Option.getD_some, Option.getD_none, if_true, decide_true, decide_false, Bool.not_true, Bool.not_false, not_true_eq_false, not_false_eq_true, $a,*])
namespace Tw
section
variable {own : List Nat} {tg : T → En → Option En} {test : Tx} {elt : Ex} {γ : En} {K : KA}
theorem wco_rngf {lo : Int} {n : Nat} (p : Nat → Bool) (f : Nat → T) (hl : n ≤ 16777216)
    (hs : ∀ i, i < n → @WG tg (.int (lo + i)) (wipeE γ own) ⟨fun γ1 => @WT test γ1 ⟨fun b γ2 => b = p i ∧ @Br b ⟨@WE elt γ2 ⟨fun u γ3 => u = f i ∧ backE γ γ3 own = γ⟩⟩ ⟨backE γ γ2 own = γ⟩⟩⟩)
    (k : K.ap (((List.range n).filter p).map f) γ) : @WCo own tg test elt (rngT lo n) γ K := by
  refine wco_for (fun i acc γ' => acc = ((List.range i).filter p).map f ∧ γ' = γ) (by rw [sizeLine_eq]; simpa using hl) (by simp) ?_ ?_
  · rintro i t acc γ' hi ⟨rfl, rfl⟩
    obtain ⟨hn, rfl⟩ := rngT_get hi
    obtain ⟨γ1, h1, b, γ2, h2, hp, hb⟩ := hs i hn
    refine ⟨γ1, h1, b, γ2, h2, fun e => ?_, fun e => ?_⟩
    · obtain ⟨u, γ3, h3, h4, h5⟩ := hb.t e
      refine ⟨u, γ3, h3, ?_, h5⟩
      rw [List.range_succ, List.filter_append, List.map_append, List.filter_cons, ← hp, e, h4]
      rfl
    · refine ⟨?_, hb.f e⟩
      rw [List.range_succ, List.filter_append, List.map_append, List.filter_cons, ← hp, e]
      simp
  · rintro us γ' ⟨rfl, rfl⟩
    rw [rngT_len]
    exact k
end
end Tw
namespace LawP
open Tw L2
theorem enu_get {c : List Int} {i : Nat} {t : T} (h : (enuT (c.map T.int))[i]? = some t) : i < c.length ∧ t = .tup [.int i, .int (c.getD i 0)] := by
  unfold enuT at h
  rw [List.getElem?_mapIdx] at h
  obtain ⟨u, hu, rfl⟩ := Option.map_eq_some_iff.mp h
  rw [List.getElem?_map] at hu
  obtain ⟨v, hv, rfl⟩ := Option.map_eq_some_iff.mp hu
  obtain ⟨h1, h2⟩ := List.getElem?_eq_some_iff.mp hv
  refine ⟨h1, ?_⟩
  rw [List.getD_eq_getElem?_getD, hv]
  rfl
theorem mod_nat {n a : Nat} : ((n : Int).fmod (a : Int)) = ((n % a : Nat) : Int) := by
  rw [Int.fmod_eq_emod_of_nonneg _ (by omega)]
  rfl
theorem sum_L {xs : List Int} : gSum [.lst (xs.map T.int)] = some (.int xs.sum) := iL_sum
theorem getD_set {c : List Int} {a i : Nat} {v : Int} (ha : a < c.length) : (c.set a v).getD i 0 = if i = a then v else c.getD i 0 := by
  rw [List.getD_eq_getElem?_getD, List.getD_eq_getElem?_getD, List.getElem?_set]
  by_cases h : a = i
  · subst h; simp [ha]
  · rw [if_neg h, if_neg (fun z => h z.symm)]
theorem fmod_zero {x : Int} {m : Int} : x.fmod m = 0 ↔ m ∣ x := by
  constructor
  · intro h
    exact ⟨x.fdiv m, by have := Int.mul_fdiv_add_fmod x m; omega⟩
  · rintro ⟨k, rfl⟩
    exact Int.mul_fmod_right m k
theorem fmod_eq {x y m : Int} : x.fmod m = y.fmod m ↔ m ∣ x - y := by
  have e1 := Int.mul_fdiv_add_fmod x m
  have e2 := Int.mul_fdiv_add_fmod y m
  constructor
  · intro h
    exact ⟨x.fdiv m - y.fdiv m, by rw [h] at e1; grind⟩
  · rintro ⟨k, hk⟩
    have : x = y + m * k := by omega
    rw [this, Int.add_mul_fmod_self_left]
theorem mapset {c : List Int} {i : Nat} {v : Int} : (List.map T.int c).set i (T.int v) = List.map T.int (c.set i v) := List.map_set.symm
theorem ixN_of {n i : Nat} (h : i < n) : ixN n (i : Int) = some i := by
  unfold ixN
  rw [if_pos (by omega)]
  simp
  exact h
theorem gAll_bls {bs : List Bool} : gAll [.lst (bs.map T.bl)] = some (.bl (bs.all id)) := by
  show (blsOf (bs.map T.bl)).map _ = _
  rw [blsOf_map]
  rfl
theorem eqTs_ints : ∀ (a b : List Int), PySem.PyData.eqvAll (toDs (a.map T.int)) (toDs (b.map T.int)) = decide (a = b)
  | [], [] => by simp
  | [], y :: b => by simp [toDs, PySem.PyData.eqvAll]
  | x :: a, [] => by simp [toDs, PySem.PyData.eqvAll]
  | x :: a, y :: b => by
    rw [List.map_cons, List.map_cons, eqAll_cons, eqTs_ints a b, eqT_int, ← Bool.decide_and]
    refine decide_eq_decide.mpr ?_
    simp
theorem okT_ints {a : List Int} : okT (.lst (a.map T.int)) = true := by
  show (a.map T.int).all (okN 59) = true
  rw [List.all_eq_true]
  intro t ht
  obtain ⟨x, _, rfl⟩ := List.mem_map.mp ht
  rfl
theorem gEq_L {a b : List Int} : gEq (.lst (a.map T.int)) (.lst (b.map T.int)) = some (.bl (decide (a = b))) := by
  unfold gEq
  rw [okT_ints, okT_ints, eqT_lst, eqTs_ints]
  rfl
theorem gNe_L {a b : List Int} : gNe (.lst (a.map T.int)) (.lst (b.map T.int)) = some (.bl (!decide (a = b))) := by
  unfold gNe
  rw [okT_ints, okT_ints, eqT_lst, eqTs_ints]
  rfl
theorem okS_ints {n : Nat} {a : List Int} (h : a.length < 1000000000) : okS (n + 1) (.lst (a.map T.int)) = true := by
  show (decide ((a.map T.int).length < 1000000000) && (a.map T.int).all (okS n)) = true
  rw [List.length_map, decide_eq_true h, Bool.true_and, List.all_eq_true]
  intro t ht
  obtain ⟨x, _, rfl⟩ := List.mem_map.mp ht
  cases n <;> rfl
def eL (c : List Int) : T := .lst (c.map T.int)
theorem alike_ints : ∀ (a b : List Int), PySem.W.alikeAll (toDs (a.map T.int)) (toDs (b.map T.int)) = true
  | [], b => by simp [toDs, PySem.W.alikeAll]
  | x :: a, [] => by simp [toDs, PySem.W.alikeAll]
  | x :: a, y :: b => by
    have := alike_ints a b
    simp [toDs, PySem.W.alikeAll, toD, PySem.W.alike, this]
theorem sorted_ok (L : List (List Int)) (h : L.length < 1000000) (h2 : ∀ c ∈ L, c.length < 1000000) : ∃ S : List T, gSortD [.lst (L.map eL)] = some (.lst S) ∧ okS 7 (.lst S) = true := by
  have g1 : (L.map eL).all okT = true := by
    rw [List.all_eq_true]
    intro t ht
    obtain ⟨c, _, rfl⟩ := List.mem_map.mp ht
    exact okT_ints
  have g2 : PySem.W.AllAlike (toDs (L.map eL)) := by
    rw [toDs_map]
    intro d hd d' hd'
    obtain ⟨t, ht, rfl⟩ := List.mem_map.mp hd
    obtain ⟨t', ht', rfl⟩ := List.mem_map.mp hd'
    obtain ⟨c, _, rfl⟩ := List.mem_map.mp ht
    obtain ⟨c', _, rfl⟩ := List.mem_map.mp ht'
    show PySem.W.alike (.list (toDs (c.map T.int))) (.list (toDs (c'.map T.int))) = true
    simp [PySem.W.alike, alike_ints]
  have g3 : PySem.W.Sortable (toDs (L.map eL)) := by
    rw [toDs_map]
    refine .inr fun d hd => ?_
    obtain ⟨t, ht, rfl⟩ := List.mem_map.mp hd
    obtain ⟨c, _, rfl⟩ := List.mem_map.mp ht
    exact ⟨fun z => (nomatch z), fun xs z => (nomatch z)⟩
  refine ⟨_, by unfold gSortD; simp only; rw [if_pos ⟨g1, g2, g3⟩], ?_⟩
  show (decide (((L.map eL).mergeSort (PySem.W.dataLe false toD)).length < 1000000000) && ((L.map eL).mergeSort (PySem.W.dataLe false toD)).all (okS 6)) = true
  rw [List.length_mergeSort, List.length_map, decide_eq_true (by omega), Bool.true_and, List.all_eq_true]
  intro t ht
  obtain ⟨c, hc, rfl⟩ := List.mem_map.mp ((List.mergeSort_perm _ _).mem_iff.mp ht)
  exact okS_ints (by have := h2 c hc; omega)
theorem cutA {c : List Int} {p : Nat} : cutT (c.map T.int) none (some (p : Int)) = (c.take p).map T.int := by
  rw [cutT_map]
  unfold cutT
  rw [HT.sIx_none, HT.sIx_nat, List.drop_zero, Nat.sub_zero, List.take_eq_take_iff.mpr]
  omega
theorem cutB {c : List Int} {p : Nat} : cutT (c.map T.int) (some (p : Int)) none = (c.drop p).map T.int := by
  rw [cutT_map]
  unfold cutT
  rw [HT.sIx_none, HT.sIx_nat]
  congr 1
  by_cases h : p ≤ c.length
  · rw [Nat.min_eq_left h]
    exact List.take_of_length_le (by simp)
  · rw [Nat.min_eq_right (by omega), List.drop_of_length_le (Nat.le_refl _), List.drop_of_length_le (by omega)]
    simp
theorem glue {c : List Int} {p : Nat} {d : Int} (h : p < c.length) : (List.map T.int (c.take p) ++ [T.int d]) ++ List.map T.int (c.drop (p + 1)) = List.map T.int (c.set p d) := by
  rw [List.set_eq_take_append_cons_drop, if_pos h, List.map_append, List.map_cons, List.append_assoc]
  rfl
theorem glue2 {c : List Int} {d : Int} : List.map T.int c ++ [T.int d] = List.map T.int (c ++ [d]) := by simp
theorem find_rng {p : Nat → Bool} {n i : Nat} (hi : i < n) (h0 : ∀ j, j < i → p j = false) (h1 : p i = true) : (List.range n).find? p = some i := by
  rw [List.find?_range_eq_some]
  exact ⟨h1, List.mem_range.mpr hi, fun j hj => by simp [h0 j hj]⟩
theorem find_rng0 {p : Nat → Bool} {n : Nat} (h0 : ∀ j, j < n → p j = false) : (List.range n).find? p = none := by
  rw [List.find?_eq_none]
  intro x hx
  rw [h0 x (List.mem_range.mp hx)]
  decide
theorem sl1 {c : List T} : cutT c none (some 1) = c.take 1 := by
  unfold cutT
  rw [HT.sIx_none, show ((1 : Int)) = ((1 : Nat) : Int) from rfl, HT.sIx_nat, List.drop_zero, Nat.sub_zero, List.take_eq_take_iff.mpr]
  omega
theorem okS_bool {b : Bool} {n : Nat} : okS n (.bl b) = true := by cases n <;> rfl
theorem nc0 : ((0 : Nat) : Int) = 0 := rfl
theorem atC {c : List Int} {k : Nat} (h : k < c.length) : atI (c.map T.int) (k : Int) = some (.int (c.getD k 0)) := iL_at h
theorem div_nat {n a : Nat} : ((n : Int).fdiv (a : Int)) = ((n / a : Nat) : Int) := by
  rw [Int.fdiv_eq_ediv_of_nonneg _ (by omega)]
  rfl
end LawP

open PySem PySem.Spec PyProof.Rows L2 TL
namespace Tw
/-! texts as lists of codes -/
def stx (L : List Nat) : Str := ⟨L.toArray⟩
theorem stx_tl (z : Str) : stx (tl z) = z := mk_tl z
theorem tl_stx (L : List Nat) : tl (stx L) = L := rfl
theorem stx_inj {a b : List Nat} (h : stx a = stx b) : a = b := congrArg tl h
theorem stx_num (n : Nat) : Str.ofString (toString ((n : Nat) : Int)) = stx (numL n) := by
  rw [← stx_tl (Str.ofString (toString ((n : Nat) : Int))), tl_num]
theorem stx_len (L : List Nat) : (stx L).length = L.length := rfl
theorem stx_app (a b : List Nat) : stx a ++ stx b = stx (a ++ b) := by
  rw [← stx_tl (stx a ++ stx b), tl_append, tl_stx, tl_stx]
theorem len_x {L : List Nat} (h : L.length ≤ 16777216) : gLen [.str (stx L)] = some (.int (L.length : Nat)) := by
  show (if (stx L).length ≤ sizeLine then some (T.int ((stx L).length : Nat)) else none) = _
  rw [stx_len, if_pos (by rw [sizeLine_eq]; exact h)]
theorem add_x {a b : List Nat} (h : a.length + b.length ≤ 16777216) : gAdd (.str (stx a)) (.str (stx b)) = some (.str (stx (a ++ b))) := by
  show (if (stx a).length + (stx b).length ≤ sizeLine then some (T.str (stx a ++ stx b)) else none) = _
  rw [stx_len, stx_len, if_pos (by rw [sizeLine_eq]; exact h), stx_app]
theorem str_x {n : Nat} (h : n < 2 ^ 60) : gStr [.int (n : Nat)] = some (.str (stx (numL n))) := by
  have : ((n : Nat) : Int).natAbs.log2 < 1920 := by
    rw [Int.natAbs_natCast]
    by_cases z : n = 0
    · subst z; decide
    · rw [Nat.log2_lt z]
      exact Nat.lt_of_lt_of_le h (Nat.pow_le_pow_right (by decide) (by decide))
  show (if ((n : Nat) : Int).natAbs.log2 < 1920 then some (T.str (Str.ofString (toString ((n : Nat) : Int)))) else none) = _
  rw [if_pos this, stx_num]
theorem ix_x {L : List Nat} {k c : Nat} (h : L[k]? = some c) (hl : L.length ≤ 16777216) : gIx (.str (stx L)) (.int (k : Nat)) = some (.str (stx [c])) := by
  show (if (stx L).length ≤ sizeLine then (atI L (k : Int)).map fun c => T.str ⟨#[c]⟩ else none) = _
  rw [stx_len, if_pos (by rw [sizeLine_eq]; exact hl), atI_nat h]
  rfl
theorem int_x {d : Nat} (h : d < 10) : gIntS [.str (stx [48 + d])] = some (.int (d : Nat)) := by
  have e := int_num (n := d) (by rw [numL_lt h]; simp)
  rw [stx_num, numL_lt h] at e
  show (if (stx [48 + d]).length ≤ 640 then (intText? (stx [48 + d])).map T.int else none) = _
  rw [if_pos (by rw [stx_len]; simp), e]
  rfl
/-- codes of signs -/
def okx (L : List Nat) : Prop := ∀ c ∈ L, c < 1114112
theorem ok_x {a : List Nat} (h : okx a) : PySem.PyData.strOk (stx a) = true := by
  unfold PySem.PyData.strOk
  show Array.all (List.toArray a) _ = true
  rw [List.all_toArray, List.all_eq_true]
  intro c hc
  exact decide_eq_true (h c hc)
theorem okx_num (n : Nat) : okx (numL n) := fun c hc => by
  have := numL_digits n c hc
  omega
theorem eq_x {a b : List Nat} (ha : okx a) (hb : okx b) : gEq (.str (stx a)) (.str (stx b)) = some (.bl (decide (a = b))) := by
  unfold gEq
  rw [show okT (.str (stx a)) = true from ok_x ha, show okT (.str (stx b)) = true from ok_x hb]
  show some (T.bl (eqT (.str (stx a)) (.str (stx b)))) = _
  congr 2
  by_cases h : a = b
  · subst h
    simp [eqT, toD, PyData.eqv]
  · rw [decide_eq_false h]
    simp only [eqT, toD, PyData.eqv]
    simp
    exact fun z => h (stx_inj z)
theorem eq1_x {c d : Nat} (ha : c < 1114112) (hb : d < 1114112) : gEq (.str (stx [c])) (.str (stx [d])) = some (.bl (decide (c = d))) := by
  rw [eq_x (fun x hx => by rw [List.mem_singleton.mp hx]; exact ha) (fun x hx => by rw [List.mem_singleton.mp hx]; exact hb)]
  congr 2
  by_cases h : c = d <;> simp [h]
def sSg : T → Option (List T)
  | .str z => some (sgn z)
  | _ => none
theorem sSg_x {z : Str} : sSg (.str z) = some (sgn z) := rfl
theorem wi_sgn {a : Ex} {γ : En} {Ka : KA} : @WI (iSgn a) γ Ka = @WE a γ ⟨fun x γ1 => @WL (sSg x) ⟨fun r => Ka.ap r γ1⟩⟩ := by
  unfold WI WE WL iSgn
  refine propext ⟨?_, ?_⟩
  · rintro ⟨t, γ', h, q⟩
    split at h
    · rename_i z γ1 h1
      cases h
      exact ⟨_, _, h1, _, rfl, q⟩
    · cases h
  · rintro ⟨x, γ1, h1, z, h3, q⟩
    unfold sSg at h3
    split at h3
    · cases h3
      exact ⟨_, γ1, by rw [h1], q⟩
    · cases h3
theorem sgn_x (L : List Nat) : sgn (stx L) = L.map fun c => T.str (stx [c]) := rfl
end Tw

open PySem PySem.Spec PyProof.Rows L2 TL
namespace Tw
/-! texts as lists of codes: the rules for running -/
def tx (L : List Nat) : T := .str (stx L)
section
variable {L M : List Nat} {c k : Nat}
theorem tx_len (h : L.length ≤ 16777216) : gLen [tx L] = some (.int (L.length : Nat)) := len_x h
theorem tx_add (h : L.length + M.length ≤ 16777216) : gAdd (tx L) (tx M) = some (tx (L ++ M)) := add_x h
theorem tx_ix (hk : k < L.length) (hl : L.length ≤ 16777216) : gIx (tx L) (.int (k : Nat)) = some (tx [L.getD k 0]) := by
  have : L[k]? = some (L.getD k 0) := by
    rw [List.getElem?_eq_getElem hk, List.getD_eq_getElem?_getD, List.getElem?_eq_getElem hk]
    rfl
  exact ix_x this hl
theorem tx_eq (h1 : okx L) (h2 : okx M) : gEq (tx L) (tx M) = some (.bl (decide (L = M))) := eq_x h1 h2
theorem tx_ne (h1 : okx L) (h2 : okx M) : gNe (tx L) (tx M) = some (.bl (!decide (L = M))) := by
  have o1 : okT (tx L) = true := ok_x h1
  have o2 : okT (tx M) = true := ok_x h2
  have := tx_eq h1 h2
  unfold gEq at this
  rw [o1, o2] at this
  have e : eqT (tx L) (tx M) = decide (L = M) := T.bl.inj (Option.some.inj this)
  unfold gNe
  rw [o1, o2, e]
  rfl
theorem tx_to (h : L.length ≤ 16777216) : gSlX (tx L) none (some (k : Int)) = some (tx (L.take k)) := by
  show (if (stx L).length ≤ sizeLine then some (T.str (Txt.slice (stx L) none (some (k : Int)))) else none) = _
  rw [stx_len, if_pos (by rw [Tw.sizeLine_eq]; exact h)]
  have := SX.slice_to (a := L) (i := (k : Int)) (by omega)
  rw [Int.toNat_natCast] at this
  exact congrArg (fun z => some (T.str z)) this
theorem tx_from (h : L.length ≤ 16777216) : gSlX (tx L) (some (k : Int)) none = some (tx (L.drop k)) := by
  show (if (stx L).length ≤ sizeLine then some (T.str (Txt.slice (stx L) (some (k : Int)) none)) else none) = _
  rw [stx_len, if_pos (by rw [Tw.sizeLine_eq]; exact h)]
  have := SX.slice_from (a := L) (i := (k : Int)) (by omega)
  rw [Int.toNat_natCast] at this
  exact congrArg (fun z => some (T.str z)) this
theorem tx_rev (h : L.length ≤ 16777216) : gRevX (tx L) = some (tx L.reverse) := by
  show (if (stx L).length ≤ sizeLine then some (T.str (revS (stx L))) else none) = _
  rw [stx_len, if_pos (by rw [Tw.sizeLine_eq]; exact h)]
  rfl
theorem tx_in : gInS (tx [c]) (tx L) = some (.bl (decide (c ∈ L))) := rfl
theorem tx_nin : gNotInS (tx [c]) (tx L) = some (.bl (!decide (c ∈ L))) := rfl
theorem sSg_tx : sSg (tx L) = some (L.map fun c => tx [c]) := rfl
def sEx : T → Option (List T)
  | .str z => some (enuT (sgn z))
  | _ => none
theorem sEx_tx : sEx (tx L) = some ((List.range L.length).map fun k => T.tup [.int (k : Nat), tx [L.getD k 0]]) := by
  show some (enuT (L.map fun c => tx [c])) = _
  refine congrArg some ?_
  unfold enuT
  refine List.ext_getElem (by simp) fun k h1 h2 => ?_
  have hk : k < L.length := by simpa using h2
  rw [List.getElem_mapIdx, List.getElem_map, List.getElem_map, List.getElem_range, List.getD_eq_getElem?_getD, List.getElem?_eq_getElem hk]
  rfl
theorem wi_enuX {a : Ex} {γ : En} {Ka : KA} : @WI (iEnuX a) γ Ka = @WE a γ ⟨fun x γ1 => @WL (sEx x) ⟨fun r => Ka.ap r γ1⟩⟩ := by
  unfold WI WE WL iEnuX
  refine propext ⟨?_, ?_⟩
  · rintro ⟨t, γ', h, q⟩
    split at h
    · rename_i z γ1 h1
      cases h
      exact ⟨_, _, h1, _, rfl, q⟩
    · cases h
  · rintro ⟨x, γ1, h1, z, h3, q⟩
    unfold sEx at h3
    split at h3
    · cases h3
      exact ⟨_, γ1, by rw [h1], q⟩
    · cases h3
theorem we_disp {l : List (Key × Key)} {γ : En} {Ke : KE} : @WE (eDisp l) γ Ke = Ke.ap (.dct (l.map fun p => tK p.1) (l.map fun p => tK p.2)) γ := by
  simp [WE, eDisp, and_assoc]
theorem we_ofX {f : Ex} {γ γ' : En} {t : T} {Ke : KE} (h : f γ = some (t, γ')) (k : Ke.ap t γ') : @WE f γ Ke := ⟨t, γ', h, k⟩
theorem okx_app (h1 : okx L) (h2 : okx M) : okx (L ++ M) := fun c hc => by
  rcases List.mem_append.mp hc with hc | hc
  · exact h1 c hc
  · exact h2 c hc
theorem okx_take (h : okx L) : okx (L.take k) := fun c hc => h c (List.mem_of_mem_take hc)
theorem okx_drop (h : okx L) : okx (L.drop k) := fun c hc => h c (List.mem_of_mem_drop hc)
theorem okx_rev (h : okx L) : okx L.reverse := fun c hc => h c (List.mem_reverse.mp hc)
theorem key_tx : toKey (tx L) = some (.inr (stx L)) := rfl
theorem tx_inj : (Sum.inr (stx L) : Key) = .inr (stx M) ↔ L = M := ⟨fun h => stx_inj (by cases h; rfl), fun h => by rw [h]⟩
end
end Tw

/-! text.startswith(text) -/
namespace Tw
open PySem PySem.Spec PyProof.Rows L2
def gStartsX : T → T → Option T
  | .str a, .str b => some (.bl (Txt.startswith a b))
  | _, _ => none
section
variable {X : Cx} {κ : List Bool} {B1 B2 M1 M2 : List Nat} {a b : Expr} {f1 f2 : Ex} {apos cpos : Pos}
theorem sx_startsX (ha : SX X a false B1 M1 κ f1) (hb : SX X b false B2 M2 κ f2) (hd : ∀ i, i ∈ B1 → i ∉ M2 := by decide)
    (hbase : attributeBase a "startswith" X.env (eval a X.env) = eval a X.env := by rfl)
    (hfew : ((backTo cpos (starEach [b] X.env)).all (fun x => !x.1) && (backToKw cpos (keywordEach [] X.env)).all (fun x => x.1.isSome)
      && decide ([b].length + ([] : List Keyword).length + (if ([] : List Keyword).isEmpty then 0 else 1) < 30)) = true := by rfl)
    (hline : (apos.endLine == cpos.line) = true := by rfl) (hs : starEach [b] X.env = (false, eval b X.env) :: starEach [] X.env := by rfl) (hplain : (backTo cpos (starEach [] X.env)).any (·.1) = false := by rfl) :
    SX X (.Call (.Attribute a "startswith" apos) [b] [] cpos) false [] (M1 ++ M2) κ (eBin gStartsX f1 f2) :=
  PE.weak (pe_bm (T := "str") (id := "str.startswith") PySem.F.plainAttrs_str PySem.F.slot_str_startswith PySem.F.type_str_startswith mt_startswith ha (pa_cons hb pa_nil hs) hbase hfew hline hs hplain) fun σ H Q ⟨N, G, γ, r, γ', S, e, q⟩ => by
  unfold eBin at e
  obtain ⟨⟨t1, γ1⟩, e1, e⟩ := Option.bind_eq_some_iff.mp e
  obtain ⟨⟨t2, γ2⟩, e2, e⟩ := Option.bind_eq_some_iff.mp e
  obtain ⟨t3, e3, e⟩ := Option.map_eq_some_iff.mp e
  cases e
  dsimp only at e3
  unfold gStartsX at e3
  split at e3
  case h_2 => cases e3
  rename_i za zb
  cases e3
  refine ⟨N, G, γ, _, γ1, S, e1, fun v1 G1 H1 s1 S1 k1 r1 => ?_⟩
  have v1e := r1.rdy.str S1
  subst v1e
  refine ⟨rfl, N, G1, γ1, _, γ2, S1, e2, fun v2 G2 H2 s2 S2 k2 r2 => ?_⟩
  exact ⟨_, _, rfl, by rw [r2.rdy.str S2], q _ G2 H2 (s1.trans s2) S2 (k1.trans k2) (.old .bl)⟩
end
theorem starts_stx {L M : List Nat} : gStartsX (.str (stx L)) (.str (stx M)) = some (.bl (decide (L.take M.length = M))) := by
  show some (T.bl (Txt.startswith (stx L) (stx M))) = _
  congr 2
  unfold Txt.startswith
  rw [PySem.StrLaws.subAt_eq]
  show (decide (0 + M.length ≤ L.length) && ((L.drop 0).take M.length == M)) = _
  rw [List.drop_zero, Nat.zero_add]
  by_cases h : L.take M.length = M
  · have hl : M.length ≤ L.length := by
      have := congrArg List.length h
      rw [List.length_take] at this
      omega
    rw [decide_eq_true h, decide_eq_true hl, h]
    simp
  · rw [decide_eq_false h]
    have : (L.take M.length == M) = false := by simpa using h
    rw [this, Bool.and_false]
end Tw

namespace Law
open Tw
def c_LETTERS : T := (.str "abcdefghijklmnopqrstuvwxyz")
def c_SIGNS : T := (.tup [(.tup [(.int 1000), (.str "m")]), (.tup [(.int 900), (.str "cm")]), (.tup [(.int 500), (.str "d")]), (.tup [(.int 400), (.str "cd")]), (.tup [(.int 100), (.str "c")]), (.tup [(.int 90), (.str "xc")]), (.tup [(.int 50), (.str "l")]), (.tup [(.int 40), (.str "xl")]), (.tup [(.int 10), (.str "x")]), (.tup [(.int 9), (.str "ix")]), (.tup [(.int 5), (.str "v")]), (.tup [(.int 4), (.str "iv")]), (.tup [(.int 1), (.str "i")])])
/-! numeral(number): 0 number, 1 found, 2 left, 3 value, 4 sign; changed []; new False -/
noncomputable def F_numeral : Fs :=
  (sSeq (sAsg 1 (eLit (.str ""))) (sSeq (sAsg 2 (eVar 0)) (sSeq (sFor (iAny (eLit c_SIGNS)) (tgSeq 2 (tgCons (tgN 3) (tgCons (tgN 4) tgNil))) (sSeq (sWhile (tOf (eBin gGe (eVar 2) (eVar 3))) (sSeq (sAsg 1 (eBin gAdd (eVar 1) (eVar 4))) (sSeq (sAsg 2 (eBin gSub (eVar 2) (eVar 3))) sNx))) (sKill 3 (sKill 4 sNx)))) (sRet (eVar 1)))))
noncomputable def sem_numeral : Sem' := semOf 5 [] F_numeral
/-! value_of(text): 0 text, 1 values, 2 found, 3 at, 4 sign, 5 later, 6 value; changed []; new False -/
noncomputable def F_value_of : Fs :=
  (sSeq (sAsg 1 (eDComp [6, 4] (iAny (eLit c_SIGNS)) (tgSeq 2 (tgCons (tgN 6) (tgCons (tgN 4) tgNil))) (tOf (eBin gEq (eCall gLen (aCons (eVar 4) aNil)) (eLit (.int 1)))) (eVar 4) (eVar 6))) (sSeq (sIf (tOrT (tOf (eBin gEq (eVar 0) (eLit (.str "")))) (tTru (eCall gAny (aCons (eComp [4] (iSgn (eVar 0)) (tgN 4) tYesT (eBin gDnin (eVar 4) (eVar 1))) aNil)))) (sRet (eLit .non)) sNx) (sSeq (sAsg 2 (eLit (.int 0))) (sSeq (sFor (iEnuX (eVar 0)) (tgSeq 2 (tgCons (tgN 3) (tgCons (tgN 4) tgNil))) (sSeq (sAsg 5 (eIf (tOf (eBin gLt (eBin gAdd (eVar 3) (eLit (.int 1))) (eCall gLen (aCons (eVar 0) aNil)))) (eBin gDix (eVar 1) (eBin gIx (eVar 0) (eBin gAdd (eVar 3) (eLit (.int 1))))) (eLit (.int 0)))) (sSeq (sAsg 2 (eBin gAdd (eVar 2) (eIf (tOf (eBin gGe (eBin gDix (eVar 1) (eVar 4)) (eVar 5))) (eBin gDix (eVar 1) (eVar 4)) (eUn gNeg (eBin gDix (eVar 1) (eVar 4)))))) (sKill 3 (sKill 4 (sKill 5 sNx)))))) (sRet (eIf (tAndT (tOf (eChain gLe gLe (eLit (.int 1)) (eVar 2) (eLit (.int 3999)))) (tOf (eBin gEq (eOwn sem_numeral [] (aCons (eVar 2) aNil)) (eVar 0)))) (eVar 2) (eLit .non)))))))
noncomputable def sem_value_of : Sem' := semOf 7 [] F_value_of
/-! letters(number): 0 number, 1 found, 2 left, 3 digit; changed []; new False -/
noncomputable def F_letters : Fs :=
  (sSeq (sAsg 1 (eLit (.str ""))) (sSeq (sAsg 2 (eVar 0)) (sSeq (sWhile (tOf (eBin gGt (eVar 2) (eLit (.int 0)))) (sSeq (sAsgT (tgSeq 2 (tgCons (tgN 2) (tgCons (tgN 3) tgNil))) (eCall gDivmod (aCons (eBin gSub (eVar 2) (eLit (.int 1))) (aCons (eLit (.int 26)) aNil)))) (sSeq (sAsg 1 (eBin gAdd (eBin gIx (eLit c_LETTERS) (eVar 3)) (eVar 1))) (sKill 3 sNx)))) (sRet (eVar 1)))))
noncomputable def sem_letters : Sem' := semOf 4 [] F_letters
/-! count_of(text): 0 text, 1 found, 2 sign; changed []; new False -/
noncomputable def F_count_of : Fs :=
  (sSeq (sIf (tOrT (tOf (eBin gEq (eVar 0) (eLit (.str "")))) (tTru (eCall gAny (aCons (eComp [2] (iSgn (eVar 0)) (tgN 2) tYesT (eBin gNotInS (eVar 2) (eLit c_LETTERS))) aNil)))) (sRet (eLit .non)) sNx) (sSeq (sAsg 1 (eLit (.int 0))) (sSeq (sFor (iSgn (eVar 0)) (tgN 2) (sSeq (sAsg 1 (eBin gAdd (eBin gAdd (eBin gMul (eVar 1) (eLit (.int 26))) (eBin gIndexX (eLit c_LETTERS) (eVar 2))) (eLit (.int 1)))) (sKill 2 sNx))) (sRet (eVar 1)))))
noncomputable def sem_count_of : Sem' := semOf 3 [] F_count_of
/-! label(kind, number): 0 kind, 1 number; changed []; new False -/
noncomputable def F_label : Fs :=
  (sSeq (sIf (tOf (eBin gEq (eVar 0) (eLit (.str "roman")))) (sRet (eOwn sem_numeral [] (aCons (eVar 1) aNil))) sNx) (sRet (eIf (tOf (eBin gEq (eVar 0) (eLit (.str "plain")))) (eCall gStr (aCons (eVar 1) aNil)) (eOwn sem_letters [] (aCons (eVar 1) aNil)))))
noncomputable def sem_label : Sem' := semOf 2 [] F_label
/-! number_of(kind, text): 0 kind, 1 text, 2 sign; changed []; new False -/
noncomputable def F_number_of : Fs :=
  (sSeq (sIf (tOf (eBin gEq (eVar 0) (eLit (.str "roman")))) (sRet (eOwn sem_value_of [] (aCons (eVar 1) aNil))) sNx) (sSeq (sIf (tOf (eBin gEq (eVar 0) (eLit (.str "letter")))) (sRet (eOwn sem_count_of [] (aCons (eVar 1) aNil))) sNx) (sSeq (sIf (tOrT (tOf (eBin gEq (eVar 1) (eLit (.str "")))) (tOrT (tTru (eCall gAny (aCons (eComp [2] (iSgn (eVar 1)) (tgN 2) tYesT (eBin gNotInS (eVar 2) (eLit (.str "0123456789")))) aNil))) (tOf (eBin gEq (eBin gIx (eVar 1) (eLit (.int 0))) (eLit (.str "0")))))) (sRet (eLit .non)) sNx) (sRet (eIf (tOf (eBin gLt (eCall gLen (aCons (eVar 1) aNil)) (eLit (.int 10)))) (eCall gIntS (aCons (eVar 1) aNil)) (eLit .non))))))
noncomputable def sem_number_of : Sem' := semOf 3 [] F_number_of
/-! labels(parts): 0 parts, 1 found, 2 prefix, 3 kind, 4 first, 5 pages, 6 number; changed []; new False -/
noncomputable def F_labels : Fs :=
  (sSeq (sAsg 1 (eLst aNil)) (sSeq (sFor (iAny (eVar 0)) (tgSeq 4 (tgCons (tgN 2) (tgCons (tgN 3) (tgCons (tgN 4) (tgCons (tgN 5) tgNil))))) (sSeq (sDrop (eMut 1 isL gExt (aCons (eComp [6] (iR2 (aCons (eVar 4) (aCons (eBin gAdd (eVar 4) (eVar 5)) aNil))) (tgN 6) tYesT (eBin gAdd (eVar 2) (eOwn sem_label [] (aCons (eVar 3) (aCons (eVar 6) aNil))))) aNil))) (sKill 2 (sKill 3 (sKill 4 (sKill 5 sNx)))))) (sRet (eVar 1))))
noncomputable def sem_labels : Sem' := semOf 7 [] F_labels
/-! page_at(parts, place): 0 parts, 1 place, 2 left, 3 prefix, 4 kind, 5 first, 6 pages; changed []; new False -/
noncomputable def F_page_at : Fs :=
  (sSeq (sAsg 2 (eVar 1)) (sSeq (sFor (iAny (eVar 0)) (tgSeq 4 (tgCons (tgN 3) (tgCons (tgN 4) (tgCons (tgN 5) (tgCons (tgN 6) tgNil))))) (sSeq (sIf (tOf (eChain gLe gLt (eLit (.int 0)) (eVar 2) (eVar 6))) (sRet (eBin gAdd (eVar 3) (eOwn sem_label [] (aCons (eVar 4) (aCons (eBin gAdd (eVar 5) (eVar 2)) aNil))))) sNx) (sSeq (sAsg 2 (eBin gSub (eVar 2) (eVar 6))) (sKill 3 (sKill 4 (sKill 5 (sKill 6 sNx))))))) (sRet (eLit .non))))
noncomputable def sem_page_at : Sem' := semOf 7 [] F_page_at
/-! places(parts, text): 0 parts, 1 text, 2 found, 3 before, 4 prefix, 5 kind, 6 first, 7 pages, 8 number; changed []; new False -/
noncomputable def F_places : Fs :=
  (sSeq (sAsg 2 (eLst aNil)) (sSeq (sAsg 3 (eLit (.int 0))) (sSeq (sFor (iAny (eVar 0)) (tgSeq 4 (tgCons (tgN 4) (tgCons (tgN 5) (tgCons (tgN 6) (tgCons (tgN 7) tgNil))))) (sSeq (sIf (tTru (eBin gStartsX (eVar 1) (eVar 4))) (sSeq (sAsg 8 (eOwn sem_number_of [] (aCons (eVar 5) (aCons (eSl gSlX (eVar 1) (oSome (eCall gLen (aCons (eVar 4) aNil))) oNone) aNil)))) (sSeq (sIf (tAndT (tOf (eBin gIsNot (eVar 8) (eLit .non))) (tOf (eChain gLe gLt (eVar 6) (eVar 8) (eBin gAdd (eVar 6) (eVar 7))))) (sSeq (sDrop (eMut 2 isL gApp (aCons (eBin gSub (eBin gAdd (eVar 3) (eVar 8)) (eVar 6)) aNil))) sNx) sNx) sNx)) sNx) (sSeq (sAsg 3 (eBin gAdd (eVar 3) (eVar 7))) (sKill 4 (sKill 5 (sKill 6 (sKill 7 (sKill 8 sNx)))))))) (sRet (eVar 2)))))
noncomputable def sem_places : Sem' := semOf 9 [] F_places
/-! first_twice(parts): 0 parts, 1 seen, 2 text; changed []; new False -/
noncomputable def F_first_twice : Fs :=
  (sSeq (sAsg 1 eDNew) (sSeq (sFor (iAny (eOwn sem_labels [] (aCons (eVar 0) aNil))) (tgN 2) (sSeq (sIf (tOf (eBin gDinE (eVar 2) (eVar 1))) (sRet (eVar 2)) sNx) (sSeq (sSetD 1 (eLit (.bl true)) (eVar 2)) (sKill 2 sNx)))) (sRet (eLit .non))))
noncomputable def sem_first_twice : Sem' := semOf 3 [] F_first_twice
/-! part_ends(parts): 0 parts, 1 found, 2 before, 3 _, 4 pages; changed []; new False -/
noncomputable def F_part_ends : Fs :=
  (sSeq (sAsg 1 (eLst aNil)) (sSeq (sAsg 2 (eLit (.int 0))) (sSeq (sFor (iAny (eVar 0)) (tgSeq 4 (tgCons (tgN 3) (tgCons (tgN 3) (tgCons (tgN 3) (tgCons (tgN 4) tgNil))))) (sSeq (sAsg 2 (eBin gAdd (eVar 2) (eVar 4))) (sSeq (sIf (tOf (eBin gGt (eVar 4) (eLit (.int 0)))) (sSeq (sDrop (eMut 1 isL gApp (aCons (eBin gSub (eVar 2) (eLit (.int 1))) aNil))) sNx) sNx) (sKill 3 (sKill 4 sNx))))) (sRet (eVar 1)))))
noncomputable def sem_part_ends : Sem' := semOf 5 [] F_part_ends
/-! told_short(parts, some): 0 parts, 1 some, 2 found, 3 known, 4 ends, 5 at, 6 first, 7 last; changed []; new False -/
noncomputable def F_told_short : Fs :=
  (sSeq (sAsg 2 (eLst aNil)) (sSeq (sAsg 3 (eOwn sem_labels [] (aCons (eVar 0) aNil))) (sSeq (sAsg 4 (eOwn sem_part_ends [] (aCons (eVar 0) aNil))) (sSeq (sFor (iAny (eUn gSortSet (eVar 1))) (tgN 5) (sSeq (sIf (tAndT (tTru (eVar 2)) (tAndT (tOf (eBin gEq (eBin gIx (eBin gIx (eVar 2) (eUn gNeg (eLit (.int 1)))) (eLit (.int 1))) (eBin gSub (eVar 5) (eLit (.int 1))))) (tOf (eBin gNotIn (eBin gSub (eVar 5) (eLit (.int 1))) (eVar 4))))) (sSeq (sSetI 2 (eTup (aCons (eBin gIx (eBin gIx (eVar 2) (eUn gNeg (eLit (.int 1)))) (eLit (.int 0))) (aCons (eVar 5) aNil))) (eUn gNeg (eLit (.int 1)))) sNx) (sSeq (sDrop (eMut 2 isL gApp (aCons (eTup (aCons (eVar 5) (aCons (eVar 5) aNil))) aNil))) sNx)) (sKill 5 sNx))) (sRet (eComp [6, 7] (iSeq (eVar 2)) (tgSeq 2 (tgCons (tgN 6) (tgCons (tgN 7) tgNil))) tYesT (eTup (aCons (eBin gIx (eVar 3) (eVar 6)) (aCons (eBin gIx (eVar 3) (eVar 7)) aNil)))))))))
noncomputable def sem_told_short : Sem' := semOf 8 [] F_told_short
/-! _law_mixed(number, place): 0 number, 1 place, 2 first, 3 second, 4 third; changed []; new False -/
noncomputable def F__law_mixed : Fs :=
  (sSeq (sAsg 2 (eBin gMod (eCall gInt (aCons (eBin gAdd (eBin gAdd (eBin gMul (eVar 0) (eLit (.int 48271))) (eBin gMul (eVar 1) (eLit (.int 69621)))) (eLit (.int 11))) aNil)) (eLit (.int 618970019642690137449562111)))) (sSeq (sAsg 3 (eBin gMod (eCall gInt (aCons (eBin gAdd (eBin gAdd (eBin gMul (eVar 2) (eVar 2)) (eBin gMul (eLit (.int 7)) (eVar 2))) (eVar 1)) aNil)) (eLit (.int 162259276829213363391578010288127)))) (sSeq (sAsg 4 (eBin gMod (eCall gInt (aCons (eBin gAdd (eBin gMul (eVar 3) (eVar 3)) (eVar 2)) aNil)) (eLit (.int 618970019642690137449562111)))) (sRet (eBin gAdd (eBin gMul (eVar 3) (eLit (.int 618970019642690137449562111))) (eVar 4))))))
noncomputable def sem__law_mixed : Sem' := semOf 5 [] F__law_mixed
/-! _law_rest(script, place, fills): 0 script, 1 place, 2 fills, 3 number; changed []; new False -/
noncomputable def F__law_rest : Fs :=
  (sSeq (sAsg 3 (eLit (.int 0))) (sSeq (sIf (tOf (eBin gGt (eCall gLen (aCons (eVar 0) aNil)) (eLit (.int 0)))) (sSeq (sAsg 3 (eCall gInt (aCons (eBin gIx (eVar 0) (eBin gMod (eCall gInt (aCons (eVar 1) aNil)) (eCall gLen (aCons (eVar 0) aNil)))) aNil))) sNx) sNx) (sSeq (sIf (tOf (eBin gLt (eVar 3) (eLit (.int 0)))) (sSeq (sAsg 3 (eBin gSub (eLit (.int 1)) (eBin gMul (eLit (.int 2)) (eVar 3)))) sNx) sNx) (sSeq (sIf (tAndT (tOf (eBin gEq (eVar 2) (eLit (.int 0)))) (tAndT (tOf (eBin gLt (eVar 1) (eCall gLen (aCons (eVar 0) aNil)))) (tOf (eBin gGe (eVar 3) (eBin gPow (eLit (.int 10)) (eLit (.int 18))))))) (sRet (eBin gSub (eVar 3) (eBin gPow (eLit (.int 10)) (eLit (.int 18))))) sNx) (sRet (eOwn sem__law_mixed [] (aCons (eBin gAdd (eVar 3) (eBin gMul (eVar 2) (eLit (.int 1000003)))) (aCons (eVar 1) aNil))))))))
noncomputable def sem__law_rest : Sem' := semOf 4 [] F__law_rest
/-! _law_pool(script): 0 script; changed []; new True -/
noncomputable def F__law_pool : Fs :=
  (sRet (eLst (aCons (eVar 0) (aCons (eLit (.int 0)) (aCons (eOwn sem__law_rest [] (aCons (eVar 0) (aCons (eLit (.int 0)) (aCons (eLit (.int 0)) aNil)))) (aCons (eLit (.int 0)) aNil))))))
noncomputable def sem__law_pool : Sem' := semOf 1 [] F__law_pool
/-! _law_next(pool): 0 pool; changed [0]; new False -/
noncomputable def F__law_next : Fs :=
  (sSeq (sSetI 0 (eBin gAdd (eBin gIx (eVar 0) (eLit (.int 1))) (eLit (.int 1))) (eLit (.int 1))) (sSeq (sSetI 0 (eOwn sem__law_rest [] (aCons (eBin gIx (eVar 0) (eLit (.int 0))) (aCons (eBin gIx (eVar 0) (eLit (.int 1))) (aCons (eLit (.int 0)) aNil)))) (eLit (.int 2))) (sSeq (sSetI 0 (eLit (.int 0)) (eLit (.int 3))) sNx)))
noncomputable def sem__law_next : Sem' := semOf 1 [0] F__law_next
/-! _law_draw(pool, limit): 0 pool, 1 limit, 2 value; changed [0]; new False -/
noncomputable def F__law_draw : Fs :=
  (sSeq (sIf (tOf (eBin gLe (eBin gIx (eVar 0) (eLit (.int 2))) (eLit (.int 1)))) (sSeq (sSetI 0 (eBin gAdd (eBin gIx (eVar 0) (eLit (.int 3))) (eLit (.int 1))) (eLit (.int 3))) (sSeq (sSetI 0 (eOwn sem__law_rest [] (aCons (eBin gIx (eVar 0) (eLit (.int 0))) (aCons (eBin gIx (eVar 0) (eLit (.int 1))) (aCons (eBin gIx (eVar 0) (eLit (.int 3))) aNil)))) (eLit (.int 2))) sNx)) sNx) (sSeq (sAsg 2 (eBin gMod (eCall gInt (aCons (eBin gIx (eVar 0) (eLit (.int 2))) aNil)) (eVar 1))) (sSeq (sSetI 0 (eBin gDiv (eCall gInt (aCons (eBin gIx (eVar 0) (eLit (.int 2))) aNil)) (eVar 1)) (eLit (.int 2))) (sRet (eVar 2)))))
noncomputable def sem__law_draw : Sem' := semOf 3 [0] F__law_draw
/-! _law_pick(pool, options): 0 pool, 1 options; changed [0]; new False -/
noncomputable def F__law_pick : Fs :=
  (sRet (eBin gIx (eVar 1) (eOwn sem__law_draw [0] (aIo 0 (aCons (eCall gLen (aCons (eVar 1) aNil)) aNil)))))
noncomputable def sem__law_pick : Sem' := semOf 2 [0] F__law_pick
/-! _law_same(answer, due): 0 answer, 1 due, 2 key, 3 k; changed []; new False -/
noncomputable def F__law_same (self : Sem') : Fs :=
  (sSeq (sIf (tOrT (tOf (eBin gIs (eVar 1) (eLit .non))) (tOrT (tOf (eBin gIs (eVar 1) (eLit (.bl true)))) (tOf (eBin gIs (eVar 1) (eLit (.bl false)))))) (sRet (eOr (eAnd (eBin gIs (eVar 1) (eLit .non)) (eBin gIs (eVar 0) (eLit .non))) (eOr (eAnd (eBin gIs (eVar 1) (eLit (.bl true))) (eBin gIs (eVar 0) (eLit (.bl true)))) (eAnd (eBin gIs (eVar 1) (eLit (.bl false))) (eBin gIs (eVar 0) (eLit (.bl false))))))) sNx) (sSeq (sIf (tTru (eUn (gIsi "int") (eVar 1))) (sRet (eAnd (eUn (gIsi "int") (eVar 0)) (eAnd (eNot (eUn (gIsi "bool") (eVar 0))) (eBin gEq (eVar 0) (eVar 1))))) sNx) (sSeq (sIf (tTru (eUn (gIsi "str") (eVar 1))) (sRet (eAnd (eUn (gIsi "str") (eVar 0)) (eBin gEq (eVar 0) (eVar 1)))) sNx) (sSeq (sIf (tTru (eUn (gIsi "dict") (eVar 1))) (sSeq (sIf (tOrT (tNotT (tTru (eUn (gIsi "dict") (eVar 0)))) (tOf (eBin gNe (eCall gLen (aCons (eVar 0) aNil)) (eCall gLen (aCons (eVar 1) aNil))))) (sRet (eLit (.bl false))) sNx) (sSeq (sFor (iSeq (eVar 1)) (tgN 2) (sSeq (sIf (tOrT (tOf (eBin gNotIn (eVar 2) (eVar 0))) (tNotT (tTru (eOwn self [] (aCons (eBin gIx (eVar 0) (eVar 2)) (aCons (eBin gIx (eVar 1) (eVar 2)) aNil)))))) (sRet (eLit (.bl false))) sNx) (sKill 2 sNx))) (sRet (eLit (.bl true))))) sNx) (sSeq (sIf (tAndT (tTru (eUn (gIsi "tuple") (eVar 1))) (tNotT (tTru (eUn (gIsi "tuple") (eVar 0))))) (sRet (eLit (.bl false))) sNx) (sSeq (sIf (tAndT (tTru (eUn (gIsi "list") (eVar 1))) (tNotT (tTru (eUn (gIsi "list") (eVar 0))))) (sRet (eLit (.bl false))) sNx) (sSeq (sIf (tOf (eBin gNe (eCall gLen (aCons (eVar 0) aNil)) (eCall gLen (aCons (eVar 1) aNil)))) (sRet (eLit (.bl false))) sNx) (sSeq (sFor (iR1 (aCons (eCall gLen (aCons (eVar 1) aNil)) aNil)) (tgN 3) (sSeq (sIf (tNotT (tTru (eOwn self [] (aCons (eBin gIx (eVar 0) (eVar 3)) (aCons (eBin gIx (eVar 1) (eVar 3)) aNil))))) (sRet (eLit (.bl false))) sNx) (sKill 3 sNx))) (sRet (eLit (.bl true)))))))))))
noncomputable def semR__law_same : Nat → Sem'
  | 0 => fun _ => none
  | n + 1 => semOf 4 [] (F__law_same (semR__law_same n))
noncomputable abbrev sem__law_same : Sem' := semR__law_same 8
/-! _law_parts(pool): 0 pool, 1 found, 2 k, 3 prefix, 4 kind; changed [0]; new False -/
noncomputable def F__law_parts : Fs :=
  (sSeq (sAsg 1 (eLst aNil)) (sSeq (sFor (iR1 (aCons (eOwn sem__law_draw [0] (aIo 0 (aCons (eLit (.int 6)) aNil))) aNil)) (tgN 2) (sSeq (sDrop (eOwn sem__law_next [0] (aIo 0 aNil))) (sSeq (sAsg 3 (eOwn sem__law_pick [0] (aIo 0 (aCons (eLst (aCons (eLit (.str "")) (aCons (eLit (.str "")) (aCons (eLit (.str "a-")) (aCons (eLit (.str "x")) aNil))))) aNil)))) (sSeq (sAsg 4 (eOwn sem__law_pick [0] (aIo 0 (aCons (eLst (aCons (eLit (.str "roman")) (aCons (eLit (.str "plain")) (aCons (eLit (.str "letter")) aNil)))) aNil)))) (sSeq (sDrop (eMut 1 isL gApp (aCons (eTup (aCons (eVar 3) (aCons (eVar 4) (aCons (eBin gAdd (eLit (.int 1)) (eOwn sem__law_draw [0] (aIo 0 (aCons (eOwn sem__law_pick [0] (aIo 0 (aCons (eLst (aCons (eLit (.int 3)) (aCons (eLit (.int 40)) aNil))) aNil))) aNil)))) (aCons (eOwn sem__law_draw [0] (aIo 0 (aCons (eLit (.int 31)) aNil))) aNil))))) aNil))) (sKill 2 (sKill 3 (sKill 4 sNx)))))))) (sRet (eVar 1))))
noncomputable def sem__law_parts : Sem' := semOf 5 [0] F__law_parts
/-! _law_labels(parts): 0 parts, 1 found, 2 prefix, 3 kind, 4 first, 5 pages, 6 number, 7 text; changed []; new False -/
noncomputable def F__law_labels : Fs :=
  (sSeq (sAsg 1 (eLst aNil)) (sSeq (sFor (iAny (eVar 0)) (tgSeq 4 (tgCons (tgN 2) (tgCons (tgN 3) (tgCons (tgN 4) (tgCons (tgN 5) tgNil))))) (sSeq (sFor (iR2 (aCons (eVar 4) (aCons (eBin gAdd (eVar 4) (eVar 5)) aNil))) (tgN 6) (sSeq (sAsg 7 (eIf (tOf (eBin gEq (eVar 3) (eLit (.str "roman")))) (eOwn sem_numeral [] (aCons (eVar 6) aNil)) (eIf (tOf (eBin gEq (eVar 3) (eLit (.str "plain")))) (eCall gStr (aCons (eVar 6) aNil)) (eOwn sem_letters [] (aCons (eVar 6) aNil))))) (sSeq (sDrop (eMut 1 isL gApp (aCons (eBin gAdd (eVar 2) (eVar 7)) aNil))) sNx))) (sKill 2 (sKill 3 (sKill 4 (sKill 5 (sKill 6 (sKill 7 sNx)))))))) (sRet (eVar 1))))
noncomputable def sem__law_labels : Sem' := semOf 8 [] F__law_labels
/-! _law_ends(parts): 0 parts, 1 found, 2 before, 3 prefix, 4 kind, 5 first, 6 pages; changed []; new False -/
noncomputable def F__law_ends : Fs :=
  (sSeq (sAsg 1 (eLst aNil)) (sSeq (sAsg 2 (eLit (.int 0))) (sSeq (sFor (iAny (eVar 0)) (tgSeq 4 (tgCons (tgN 3) (tgCons (tgN 4) (tgCons (tgN 5) (tgCons (tgN 6) tgNil))))) (sSeq (sAsg 2 (eBin gAdd (eVar 2) (eVar 6))) (sSeq (sAsg 1 (eIf (tOf (eBin gGt (eVar 6) (eLit (.int 0)))) (eBin gAdd (eVar 1) (eLst (aCons (eBin gSub (eVar 2) (eLit (.int 1))) aNil))) (eVar 1))) (sKill 3 (sKill 4 (sKill 5 (sKill 6 sNx))))))) (sRet (eVar 1)))))
noncomputable def sem__law_ends : Sem' := semOf 7 [] F__law_ends
/-! _law_short(parts, some): 0 parts, 1 some, 2 known, 3 ends, 4 found, 5 first, 6 at; changed []; new False -/
noncomputable def F__law_short : Fs :=
  (sSeq (sAsg 2 (eOwn sem__law_labels [] (aCons (eVar 0) aNil))) (sSeq (sAsg 3 (eOwn sem__law_ends [] (aCons (eVar 0) aNil))) (sSeq (sAsg 4 (eLst aNil)) (sSeq (sAsg 5 (eLit .non)) (sSeq (sFor (iR1 (aCons (eCall gLen (aCons (eVar 2) aNil)) aNil)) (tgN 6) (sSeq (sIf (tOf (eBin gIn (eVar 6) (eVar 1))) (sSeq (sAsg 5 (eIf (tOf (eBin gIs (eVar 5) (eLit .non))) (eVar 6) (eVar 5))) (sSeq (sIf (tOrT (tOf (eBin gIn (eVar 6) (eVar 3))) (tOf (eBin gNotIn (eBin gAdd (eVar 6) (eLit (.int 1))) (eVar 1)))) (sSeq (sDrop (eMut 4 isL gApp (aCons (eTup (aCons (eBin gIx (eVar 2) (eVar 5)) (aCons (eBin gIx (eVar 2) (eVar 6)) aNil))) aNil))) (sSeq (sAsg 5 (eLit .non)) sNx)) sNx) sNx)) sNx) (sKill 6 sNx))) (sRet (eVar 4)))))))
noncomputable def sem__law_short : Sem' := semOf 7 [] F__law_short
/-! law(script): 0 script, 1 pool, 2 parts, 3 known, 4 passed, 5 twice, 6 turn, 7 at, 8 text, 9 some, 10 mixed, 11 k; changed []; new False -/
noncomputable def F_law : Fs :=
  (sSeq (sAsg 1 (eOwn sem__law_pool [] (aCons (eVar 0) aNil))) (sSeq (sAsg 2 (eOwn sem__law_parts [1] (aIo 1 aNil))) (sSeq (sAsg 3 (eOwn sem__law_labels [] (aCons (eVar 2) aNil))) (sSeq (sAsg 4 (eCall gListOf (aCons (eVar 2) aNil))) (sSeq (sIf (tOrT (tNotT (tTru (eOwn sem__law_same [] (aCons (eOwn sem_labels [] (aCons (eVar 4) aNil)) (aCons (eVar 3) aNil))))) (tNotT (tTru (eOwn sem__law_same [] (aCons (eOwn sem_part_ends [] (aCons (eVar 4) aNil)) (aCons (eOwn sem__law_ends [] (aCons (eVar 2) aNil)) aNil)))))) (sRet (eLit (.bl false))) sNx) (sSeq (sAsg 5 (eComp [11] (iR1 (aCons (eCall gLen (aCons (eVar 3) aNil)) aNil)) (tgN 11) (tOf (eBin gIn (eBin gIx (eVar 3) (eVar 11)) (eSl gSl (eVar 3) oNone (oSome (eVar 11))))) (eBin gIx (eVar 3) (eVar 11)))) (sSeq (sIf (tNotT (tTru (eOwn sem__law_same [] (aCons (eOwn sem_first_twice [] (aCons (eVar 4) aNil)) (aCons (eIf (tOf (eBin gGt (eCall gLen (aCons (eVar 5) aNil)) (eLit (.int 0)))) (eBin gIx (eVar 5) (eLit (.int 0))) (eLit .non)) aNil))))) (sRet (eLit (.bl false))) sNx) (sSeq (sFor (iR1 (aCons (eLit (.int 8)) aNil)) (tgN 6) (sSeq (sAsg 7 (eBin gSub (eOwn sem__law_draw [1] (aIo 1 (aCons (eBin gAdd (eCall gLen (aCons (eVar 3) aNil)) (eLit (.int 4))) aNil))) (eLit (.int 2)))) (sSeq (sIf (tNotT (tTru (eOwn sem__law_same [] (aCons (eOwn sem_page_at [] (aCons (eVar 4) (aCons (eVar 7) aNil))) (aCons (eIf (tOf (eChain gLe gLt (eLit (.int 0)) (eVar 7) (eCall gLen (aCons (eVar 3) aNil)))) (eBin gIx (eVar 3) (eVar 7)) (eLit .non)) aNil))))) (sRet (eLit (.bl false))) sNx) (sSeq (sAsg 8 (eIf (tOf (eBin gGt (eCall gLen (aCons (eVar 3) aNil)) (eLit (.int 0)))) (eOwn sem__law_pick [1] (aIo 1 (aCons (eVar 3) aNil))) (eLit (.str "i")))) (sSeq (sAsg 8 (eOwn sem__law_pick [1] (aIo 1 (aCons (eLst (aCons (eVar 8) (aCons (eSl gSlX (eVar 8) (oSome (eLit (.int 1))) oNone) (aCons (eBin gAdd (eVar 8) (eLit (.str "i"))) (aCons (eBin gAdd (eLit (.str "a-")) (eVar 8)) (aCons (eBin gAdd (eLit (.str "x")) (eVar 8)) (aCons (eBin gAdd (eLit (.str "0")) (eVar 8)) aNil))))))) aNil)))) (sSeq (sIf (tNotT (tTru (eOwn sem__law_same [] (aCons (eOwn sem_places [] (aCons (eVar 4) (aCons (eVar 8) aNil))) (aCons (eComp [11] (iR1 (aCons (eCall gLen (aCons (eVar 3) aNil)) aNil)) (tgN 11) (tOf (eBin gEq (eBin gIx (eVar 3) (eVar 11)) (eVar 8))) (eVar 11)) aNil))))) (sRet (eLit (.bl false))) sNx) (sSeq (sAsg 9 (eComp [11] (iR1 (aCons (eCall gLen (aCons (eVar 3) aNil)) aNil)) (tgN 11) (tOf (eBin gGt (eOwn sem__law_draw [1] (aIo 1 (aCons (eLit (.int 3)) aNil))) (eLit (.int 0)))) (eVar 11))) (sSeq (sAsg 10 (eBin gAdd (eUn gRev (eVar 9)) (eSl gSl (eVar 9) oNone (oSome (eLit (.int 2)))))) (sSeq (sIf (tNotT (tTru (eOwn sem__law_same [] (aCons (eOwn sem_told_short [] (aCons (eVar 4) (aCons (eVar 10) aNil))) (aCons (eOwn sem__law_short [] (aCons (eVar 2) (aCons (eVar 9) aNil))) aNil))))) (sRet (eLit (.bl false))) sNx) (sKill 6 (sKill 7 (sKill 8 (sKill 9 (sKill 10 sNx)))))))))))))) (sRet (eBin gEq (eVar 4) (eVar 2)))))))))))
noncomputable def sem_law : Sem' := semOf 12 [] F_law
end Law
namespace Law
open PySem PySem.Spec PyProof.Rows L2 Tw
def topS (i : Nat) : Stmt := PySem.Challenge.pw_inkwright_k05_whole_labels_of_books.main.body.getD i (.Pass ⟨0, 0, 0, 0⟩)
abbrev S_numeral : Stmt := topS 3
abbrev N_numeral : List Str := ["number", "found", "left", "value", "sign"]
theorem sc_numeral : FnScope N_numeral ["number"] (defScope S_numeral) := ⟨rfl, rfl, rfl, by decide +kernel, rfl, by decide +kernel, by decide +kernel⟩
abbrev S_value_of : Stmt := topS 4
abbrev N_value_of : List Str := ["text", "values", "found", "at", "sign", "later", "value"]
theorem sc_value_of : FnScope N_value_of ["text"] (defScope S_value_of) := ⟨rfl, rfl, rfl, by decide +kernel, rfl, by decide +kernel, by decide +kernel⟩
abbrev S_letters : Stmt := topS 5
abbrev N_letters : List Str := ["number", "found", "left", "digit"]
theorem sc_letters : FnScope N_letters ["number"] (defScope S_letters) := ⟨rfl, rfl, rfl, by decide +kernel, rfl, by decide +kernel, by decide +kernel⟩
abbrev S_count_of : Stmt := topS 6
abbrev N_count_of : List Str := ["text", "found", "sign"]
theorem sc_count_of : FnScope N_count_of ["text"] (defScope S_count_of) := ⟨rfl, rfl, rfl, by decide +kernel, rfl, by decide +kernel, by decide +kernel⟩
abbrev S_label : Stmt := topS 8
abbrev N_label : List Str := ["kind", "number"]
theorem sc_label : FnScope N_label ["kind", "number"] (defScope S_label) := ⟨rfl, rfl, rfl, by decide +kernel, rfl, by decide +kernel, by decide +kernel⟩
abbrev S_number_of : Stmt := topS 9
abbrev N_number_of : List Str := ["kind", "text", "sign"]
theorem sc_number_of : FnScope N_number_of ["kind", "text"] (defScope S_number_of) := ⟨rfl, rfl, rfl, by decide +kernel, rfl, by decide +kernel, by decide +kernel⟩
abbrev S_labels : Stmt := topS 10
abbrev N_labels : List Str := ["parts", "found", "prefix", "kind", "first", "pages", "number"]
theorem sc_labels : FnScope N_labels ["parts"] (defScope S_labels) := ⟨rfl, rfl, rfl, by decide +kernel, rfl, by decide +kernel, by decide +kernel⟩
abbrev S_page_at : Stmt := topS 11
abbrev N_page_at : List Str := ["parts", "place", "left", "prefix", "kind", "first", "pages"]
theorem sc_page_at : FnScope N_page_at ["parts", "place"] (defScope S_page_at) := ⟨rfl, rfl, rfl, by decide +kernel, rfl, by decide +kernel, by decide +kernel⟩
abbrev S_places : Stmt := topS 12
abbrev N_places : List Str := ["parts", "text", "found", "before", "prefix", "kind", "first", "pages", "number"]
theorem sc_places : FnScope N_places ["parts", "text"] (defScope S_places) := ⟨rfl, rfl, rfl, by decide +kernel, rfl, by decide +kernel, by decide +kernel⟩
abbrev S_first_twice : Stmt := topS 13
abbrev N_first_twice : List Str := ["parts", "seen", "text"]
theorem sc_first_twice : FnScope N_first_twice ["parts"] (defScope S_first_twice) := ⟨rfl, rfl, rfl, by decide +kernel, rfl, by decide +kernel, by decide +kernel⟩
abbrev S_part_ends : Stmt := topS 15
abbrev N_part_ends : List Str := ["parts", "found", "before", "_", "pages"]
theorem sc_part_ends : FnScope N_part_ends ["parts"] (defScope S_part_ends) := ⟨rfl, rfl, rfl, by decide +kernel, rfl, by decide +kernel, by decide +kernel⟩
abbrev S_told_short : Stmt := topS 14
abbrev N_told_short : List Str := ["parts", "some", "found", "known", "ends", "at", "first", "last"]
theorem sc_told_short : FnScope N_told_short ["parts", "some"] (defScope S_told_short) := ⟨rfl, rfl, rfl, by decide +kernel, rfl, by decide +kernel, by decide +kernel⟩
abbrev S__law_mixed : Stmt := topS 17
abbrev N__law_mixed : List Str := ["number", "place", "first", "second", "third"]
theorem sc__law_mixed : FnScope N__law_mixed ["number", "place"] (defScope S__law_mixed) := ⟨rfl, rfl, rfl, by decide +kernel, rfl, by decide +kernel, by decide +kernel⟩
abbrev S__law_rest : Stmt := topS 18
abbrev N__law_rest : List Str := ["script", "place", "fills", "number"]
theorem sc__law_rest : FnScope N__law_rest ["script", "place", "fills"] (defScope S__law_rest) := ⟨rfl, rfl, rfl, by decide +kernel, rfl, by decide +kernel, by decide +kernel⟩
abbrev S__law_pool : Stmt := topS 19
abbrev N__law_pool : List Str := ["script"]
theorem sc__law_pool : FnScope N__law_pool ["script"] (defScope S__law_pool) := ⟨rfl, rfl, rfl, by decide +kernel, rfl, by decide +kernel, by decide +kernel⟩
abbrev S__law_next : Stmt := topS 20
abbrev N__law_next : List Str := ["pool"]
theorem sc__law_next : FnScope N__law_next ["pool"] (defScope S__law_next) := ⟨rfl, rfl, rfl, by decide +kernel, rfl, by decide +kernel, by decide +kernel⟩
abbrev S__law_draw : Stmt := topS 21
abbrev N__law_draw : List Str := ["pool", "limit", "value"]
theorem sc__law_draw : FnScope N__law_draw ["pool", "limit"] (defScope S__law_draw) := ⟨rfl, rfl, rfl, by decide +kernel, rfl, by decide +kernel, by decide +kernel⟩
abbrev S__law_pick : Stmt := topS 22
abbrev N__law_pick : List Str := ["pool", "options"]
theorem sc__law_pick : FnScope N__law_pick ["pool", "options"] (defScope S__law_pick) := ⟨rfl, rfl, rfl, by decide +kernel, rfl, by decide +kernel, by decide +kernel⟩
abbrev S__law_same : Stmt := topS 23
abbrev N__law_same : List Str := ["answer", "due", "key", "k"]
theorem sc__law_same : FnScope N__law_same ["answer", "due"] (defScope S__law_same) := ⟨rfl, rfl, rfl, by decide +kernel, rfl, by decide +kernel, by decide +kernel⟩
abbrev S__law_parts : Stmt := topS 24
abbrev N__law_parts : List Str := ["pool", "found", "k", "prefix", "kind"]
theorem sc__law_parts : FnScope N__law_parts ["pool"] (defScope S__law_parts) := ⟨rfl, rfl, rfl, by decide +kernel, rfl, by decide +kernel, by decide +kernel⟩
abbrev S__law_labels : Stmt := topS 25
abbrev N__law_labels : List Str := ["parts", "found", "prefix", "kind", "first", "pages", "number", "text"]
theorem sc__law_labels : FnScope N__law_labels ["parts"] (defScope S__law_labels) := ⟨rfl, rfl, rfl, by decide +kernel, rfl, by decide +kernel, by decide +kernel⟩
abbrev S__law_ends : Stmt := topS 26
abbrev N__law_ends : List Str := ["parts", "found", "before", "prefix", "kind", "first", "pages"]
theorem sc__law_ends : FnScope N__law_ends ["parts"] (defScope S__law_ends) := ⟨rfl, rfl, rfl, by decide +kernel, rfl, by decide +kernel, by decide +kernel⟩
abbrev S__law_short : Stmt := topS 27
abbrev N__law_short : List Str := ["parts", "some", "known", "ends", "found", "first", "at"]
theorem sc__law_short : FnScope N__law_short ["parts", "some"] (defScope S__law_short) := ⟨rfl, rfl, rfl, by decide +kernel, rfl, by decide +kernel, by decide +kernel⟩
abbrev S_law : Stmt := topS 28
abbrev N_law : List Str := ["script", "pool", "parts", "known", "passed", "twice", "turn", "at", "text", "some", "mixed", "k"]
theorem sc_law : FnScope N_law ["script"] (defScope S_law) := ⟨rfl, rfl, rfl, by decide +kernel, rfl, by decide +kernel, by decide +kernel⟩
structure Facts (K : PySem.W.Frag) (mg : Str → Option Value) : Prop where
  h_numeral : Has K mg "numeral" S_numeral
  h_value_of : Has K mg "value_of" S_value_of
  h_letters : Has K mg "letters" S_letters
  h_count_of : Has K mg "count_of" S_count_of
  h_label : Has K mg "label" S_label
  h_number_of : Has K mg "number_of" S_number_of
  h_labels : Has K mg "labels" S_labels
  h_page_at : Has K mg "page_at" S_page_at
  h_places : Has K mg "places" S_places
  h_first_twice : Has K mg "first_twice" S_first_twice
  h_part_ends : Has K mg "part_ends" S_part_ends
  h_told_short : Has K mg "told_short" S_told_short
  h__law_mixed : Has K mg "_law_mixed" S__law_mixed
  h__law_rest : Has K mg "_law_rest" S__law_rest
  h__law_pool : Has K mg "_law_pool" S__law_pool
  h__law_next : Has K mg "_law_next" S__law_next
  h__law_draw : Has K mg "_law_draw" S__law_draw
  h__law_pick : Has K mg "_law_pick" S__law_pick
  h__law_same : Has K mg "_law_same" S__law_same
  h__law_parts : Has K mg "_law_parts" S__law_parts
  h__law_labels : Has K mg "_law_labels" S__law_labels
  h__law_ends : Has K mg "_law_ends" S__law_ends
  h__law_short : Has K mg "_law_short" S__law_short
  h_law : Has K mg "law" S_law
  n_any : mg "any" = none
  n_bool : mg "bool" = none
  n_dict : mg "dict" = none
  n_divmod : mg "divmod" = none
  n_enumerate : mg "enumerate" = none
  n_int : mg "int" = none
  n_isinstance : mg "isinstance" = none
  n_len : mg "len" = none
  n_list : mg "list" = none
  n_range : mg "range" = none
  n_set : mg "set" = none
  n_sorted : mg "sorted" = none
  n_str : mg "str" = none
  n_tuple : mg "tuple" = none
  c_LETTERS : Cst K mg "LETTERS" c_LETTERS
  c_SIGNS : Cst K mg "SIGNS" c_SIGNS
section
variable {P : Program} {w : World} {K : PySem.W.Frag} {mg : Str → Option Value}
theorem ok_numeral (T_ : Facts K mg) : Known P w K mg "numeral" 1 ["number"] [false] false sem_numeral :=
  known_def (k := 0) (Ns := N_numeral) (pl := []) (κ' := [false, false, false, false, false]) T_.h_numeral (fun _ _ _ _ _ _ us hl => match us, hl with | [_], _ => rfl) sc_numeral rfl rfl (fun fa base cdv A outer s H E hr =>
    (sss_cons (ss_asg 1 sx_str sc_numeral.nd) (sss_cons (ss_asg 2 (sx_var 0) sc_numeral.nd) (sss_cons (ss_for PassesOwn.never rfl (si_any (sx_cst (by rfl) T_.c_SIGNS)) (sg_seq rfl (sgs_cons (sg_name 3 sc_numeral.nd) (sgs_cons (sg_name 4 sc_numeral.nd) sgs_nil))) (sss_cons (ss_while PassesOwn.never (st_cmp op_ge o2_ge (sx_var 2) (sx_var 3)) (sss_cons (ss_asg 1 (sx_bin op_addX o2_add (sx_var 1) (sx_var 4)) sc_numeral.nd) (sss_cons (ss_asg 2 (sx_bin op_sub o2_sub (sx_var 2) (sx_var 3)) sc_numeral.nd) sss_nil))) (sss_kill 3 false (sss_kill 4 false sss_nil)))) (sss_one (ss_ret (sx_var 1)))))))
    (fun h => nomatch h)
theorem ok_value_of (T_ : Facts K mg) (K_numeral : Known P w K mg "numeral" 1 ["number"] [false] false sem_numeral) : Known P w K mg "value_of" 2 ["text"] [false] false sem_value_of :=
  known_def (k := 1) (Ns := N_value_of) (pl := []) (κ' := [false, false, false, false, false, false, false]) T_.h_value_of (fun _ _ _ _ _ _ us hl => match us, hl with | [_], _ => rfl) sc_value_of rfl rfl (fun fa base cdv A outer s H E hr =>
    (sss_cons (ss_asg 1 (sx_last (sx_dc (own' := [("value", 6), ("sign", 4)]) rfl sc_value_of.nd (si_any (sx_cst (by rfl) T_.c_SIGNS)) (blkOk_by (N := N_value_of) (sc := defScope S_value_of) (by decide +kernel)) (fun _ _ _ _ _ => (sg_seq rfl (sgs_cons (sg_name 6 sc_value_of.nd) (sgs_cons (sg_name 4 sc_value_of.nd) sgs_nil)))) (fun _ _ _ _ _ => (sts_one (st_cmp (op_eqD hr.units) o2_eq (sx_callB call_len fn_len (by rfl) T_.n_len PySem.boot_len (sa_cons (sx_var 4) sa_nil)) sx_int))) (fun _ _ _ _ _ => (sx_var 4)) (fun _ _ _ _ _ => (sx_var 6)))) sc_value_of.nd) (sss_cons (κ1 := [false, false, false, false, false, false, false]) (ss_if (PW.pt (sw_or (st_cmp (op_eqD hr.units) o2_eq (sx_var 0) sx_str) (sw_or1 (st_tru (sx_callB (cr_any rfl) fn_any (by rfl) T_.n_any (by decide +kernel) (sa_cons (sx_last (sx_lc (own' := [("sign", 4)])  rfl sc_value_of.nd (si_str (sx_var 0)) (blkOk_by (N := N_value_of) (sc := defScope S_value_of) (by decide +kernel)) (fun _ _ _ _ _ => (sg_name 4 sc_value_of.nd)) (fun _ _ _ _ _ => sts_nil) (fun _ _ _ _ _ => (sx_cmp (op_dnin (hu65 hr)) o2_dnin (sx_var 4) (sx_var 1))))) sa_nil)))))) (sss_one (ss_ret sx_non)) sss_nil) (sss_cons (ss_asg 2 sx_int sc_value_of.nd) (sss_cons (ss_for PassesOwn.never rfl (si_enuX (by rfl) T_.n_enumerate (sx_var 0)) (sg_seq rfl (sgs_cons (sg_name 3 sc_value_of.nd) (sgs_cons (sg_name 4 sc_value_of.nd) sgs_nil))) (sss_cons (ss_asg 5 (sx_if (st_cmp op_lt o2_lt (sx_bin op_addX o2_add (sx_var 3) sx_int) (sx_callB call_len fn_len (by rfl) T_.n_len PySem.boot_len (sa_cons (sx_var 0) sa_nil))) (sx_dget (hu65 hr) (sx_var 1) (sx_ix ix_seq o2_ix (sx_var 0) (sx_bin op_addX o2_add (sx_var 3) sx_int))) sx_int) sc_value_of.nd) (sss_cons (ss_asg 2 (sx_bin op_addX o2_add (sx_var 2) (sx_if (st_cmp op_ge o2_ge (sx_dget (hu65 hr) (sx_var 1) (sx_var 4)) (sx_var 5)) (sx_dget (hu65 hr) (sx_var 1) (sx_var 4)) (sx_un un_neg o1_neg (sx_dget (hu65 hr) (sx_var 1) (sx_var 4))))) sc_value_of.nd) (sss_kill 3 false (sss_kill 4 false (sss_kill 5 false sss_nil)))))) (sss_one (ss_ret (sx_if (PW.pt (sw_and (st_chain op_le op_le o2_le o2_le sx_int (sx_var 2) sx_int) (sw_and1 (st_cmp (op_eqD hr.units) o2_eq (sx_ownK K_numeral (hr.mono (by decide)) (by rfl) (sak_cp (sx_var 2) sak_nil)) (sx_var 0))))) (sx_var 2) sx_non))))))))
    (fun h => nomatch h)
theorem ok_letters (T_ : Facts K mg) : Known P w K mg "letters" 1 ["number"] [false] false sem_letters :=
  known_def (k := 0) (Ns := N_letters) (pl := []) (κ' := [false, false, false, false]) T_.h_letters (fun _ _ _ _ _ _ us hl => match us, hl with | [_], _ => rfl) sc_letters rfl rfl (fun fa base cdv A outer s H E hr =>
    (sss_cons (ss_asg 1 sx_str sc_letters.nd) (sss_cons (ss_asg 2 (sx_var 0) sc_letters.nd) (sss_cons (ss_while PassesOwn.never (st_cmp op_gt o2_gt (sx_var 2) sx_int) (sss_cons (ss_asgT (sx_callB call_divmod fn_divmod (by rfl) T_.n_divmod (by decide +kernel) (sa_cons (sx_bin op_sub o2_sub (sx_var 2) sx_int) (sa_cons sx_int sa_nil))) (sg_seq rfl (sgs_cons (sg_name 2 sc_letters.nd) (sgs_cons (sg_name 3 sc_letters.nd) sgs_nil)))) (sss_cons (ss_asg 1 (sx_bin op_addX o2_add (sx_ix ix_seq o2_ix (sx_cst (by rfl) T_.c_LETTERS) (sx_var 3)) (sx_var 1)) sc_letters.nd) (sss_kill 3 false sss_nil)))) (sss_one (ss_ret (sx_var 1)))))))
    (fun h => nomatch h)
theorem ok_count_of (T_ : Facts K mg) : Known P w K mg "count_of" 1 ["text"] [false] false sem_count_of :=
  known_def (k := 0) (Ns := N_count_of) (pl := []) (κ' := [false, false, false]) T_.h_count_of (fun _ _ _ _ _ _ us hl => match us, hl with | [_], _ => rfl) sc_count_of rfl rfl (fun fa base cdv A outer s H E hr =>
    (sss_cons (κ1 := [false, false, false]) (ss_if (PW.pt (sw_or (st_cmp (op_eqD hr.units) o2_eq (sx_var 0) sx_str) (sw_or1 (st_tru (sx_callB (cr_any rfl) fn_any (by rfl) T_.n_any (by decide +kernel) (sa_cons (sx_last (sx_lc (own' := [("sign", 2)])  rfl sc_count_of.nd (si_str (sx_var 0)) (blkOk_by (N := N_count_of) (sc := defScope S_count_of) (by decide +kernel)) (fun _ _ _ _ _ => (sg_name 2 sc_count_of.nd)) (fun _ _ _ _ _ => sts_nil) (fun _ _ _ _ _ => (sx_cmp op_notIn_sign o2_notInS (sx_var 2) (sx_cst (by rfl) T_.c_LETTERS))))) sa_nil)))))) (sss_one (ss_ret sx_non)) sss_nil) (sss_cons (ss_asg 1 sx_int sc_count_of.nd) (sss_cons (ss_for PassesOwn.never rfl (si_str (sx_var 0)) (sg_name 2 sc_count_of.nd) (sss_cons (ss_asg 1 (sx_bin op_addX o2_add (sx_bin op_addX o2_add (sx_bin op_mulY o2_mul (sx_var 1) sx_int) (sx_indexX (sx_cst (by rfl) T_.c_LETTERS) (sx_var 2))) sx_int) sc_count_of.nd) (sss_kill 2 false sss_nil))) (sss_one (ss_ret (sx_var 1)))))))
    (fun h => nomatch h)
theorem ok_label (T_ : Facts K mg) (K_numeral : Known P w K mg "numeral" 1 ["number"] [false] false sem_numeral) (K_letters : Known P w K mg "letters" 1 ["number"] [false] false sem_letters) : Known P w K mg "label" 2 ["kind", "number"] [false, false] false sem_label :=
  known_def (k := 1) (Ns := N_label) (pl := []) (κ' := [false, false]) T_.h_label (fun _ _ _ _ _ _ us hl => match us, hl with | [_, _], _ => rfl) sc_label rfl rfl (fun fa base cdv A outer s H E hr =>
    (sss_cons (κ1 := [false, false]) (ss_if (st_cmp (op_eqD hr.units) o2_eq (sx_var 0) sx_str) (sss_one (ss_ret (sx_ownK K_numeral (hr.mono (by decide)) (by rfl) (sak_cp (sx_var 1) sak_nil)))) sss_nil) (sss_one (ss_ret (sx_if (st_cmp (op_eqD hr.units) o2_eq (sx_var 0) sx_str) (sx_callTy call_str_int fn_str (by rfl) T_.n_str (by decide +kernel) (sa_cons (sx_var 1) sa_nil)) (sx_ownK K_letters (hr.mono (by decide)) (by rfl) (sak_cp (sx_var 1) sak_nil)))))))
    (fun h => nomatch h)
theorem ok_number_of (T_ : Facts K mg) (K_value_of : Known P w K mg "value_of" 2 ["text"] [false] false sem_value_of) (K_count_of : Known P w K mg "count_of" 1 ["text"] [false] false sem_count_of) : Known P w K mg "number_of" 3 ["kind", "text"] [false, false] false sem_number_of :=
  known_def (k := 2) (Ns := N_number_of) (pl := []) (κ' := [false, false, false]) T_.h_number_of (fun _ _ _ _ _ _ us hl => match us, hl with | [_, _], _ => rfl) sc_number_of rfl rfl (fun fa base cdv A outer s H E hr =>
    (sss_cons (κ1 := [false, false, false]) (ss_if (st_cmp (op_eqD hr.units) o2_eq (sx_var 0) sx_str) (sss_one (ss_ret (sx_ownK K_value_of (hr.mono (by decide)) (by rfl) (sak_cp (sx_var 1) sak_nil)))) sss_nil) (sss_cons (κ1 := [false, false, false]) (ss_if (st_cmp (op_eqD hr.units) o2_eq (sx_var 0) sx_str) (sss_one (ss_ret (sx_ownK K_count_of (hr.mono (by decide)) (by rfl) (sak_cp (sx_var 1) sak_nil)))) sss_nil) (sss_cons (κ1 := [false, false, false]) (ss_if (PW.pt (sw_or (st_cmp (op_eqD hr.units) o2_eq (sx_var 1) sx_str) (sw_or (st_tru (sx_callB (cr_any rfl) fn_any (by rfl) T_.n_any (by decide +kernel) (sa_cons (sx_last (sx_lc (own' := [("sign", 2)])  rfl sc_number_of.nd (si_str (sx_var 1)) (blkOk_by (N := N_number_of) (sc := defScope S_number_of) (by decide +kernel)) (fun _ _ _ _ _ => (sg_name 2 sc_number_of.nd)) (fun _ _ _ _ _ => sts_nil) (fun _ _ _ _ _ => (sx_cmp op_notIn_sign o2_notInS (sx_var 2) sx_str)))) sa_nil))) (sw_or1 (st_cmp (op_eqD hr.units) o2_eq (sx_ix ix_seq o2_ix (sx_var 1) sx_int) sx_str))))) (sss_one (ss_ret sx_non)) sss_nil) (sss_one (ss_ret (sx_if (st_cmp op_lt o2_lt (sx_callB call_len fn_len (by rfl) T_.n_len PySem.boot_len (sa_cons (sx_var 1) sa_nil)) sx_int) (sx_callTy call_intS fn_intS (by rfl) T_.n_int (by decide +kernel) (sa_cons (sx_var 1) sa_nil)) sx_non)))))))
    (fun h => nomatch h)
theorem ok_labels (T_ : Facts K mg) (K_label : Known P w K mg "label" 2 ["kind", "number"] [false, false] false sem_label) : Known P w K mg "labels" 3 ["parts"] [false] false sem_labels :=
  known_def (k := 2) (Ns := N_labels) (pl := []) (κ' := [false, false, false, false, false, false, false]) T_.h_labels (fun _ _ _ _ _ _ us hl => match us, hl with | [_], _ => rfl) sc_labels rfl rfl (fun fa base cdv A outer s H E hr =>
    (sss_cons (ss_asgO 1 (sx_lst sa_nil) sc_labels.nd) (sss_cons (ss_for PassesOwn.never rfl (si_any (sx_var 0)) (sg_seq rfl (sgs_cons (sg_name 2 sc_labels.nd) (sgs_cons (sg_name 3 sc_labels.nd) (sgs_cons (sg_name 4 sc_labels.nd) (sgs_cons (sg_name 5 sc_labels.nd) sgs_nil))))) (sss_cons (ss_drop (sx_mut 1 PySem.F.plainAttrs_list PySem.F.slot_list_extend PySem.F.type_list_extend mt_extend mu_ext (fun _ _ _ _ _ => tyL) (sa_cons (sx_last (sx_lc (own' := [("number", 6)])  rfl sc_labels.nd (si_r2 (by rfl) T_.n_range (sa_cons (sx_var 4) (sa_cons (sx_bin op_addX o2_add (sx_var 4) (sx_var 5)) sa_nil))) (blkOk_by (N := N_labels) (sc := defScope S_labels) (by decide +kernel)) (fun _ _ _ _ _ => (sg_name 6 sc_labels.nd)) (fun _ _ _ _ _ => sts_nil) (fun _ _ _ _ _ => (sx_bin op_addX o2_add (sx_var 2) (sx_ownK K_label (hr.mono (by decide)) (by rfl) (sak_cp (sx_var 3) (sak_cp (sx_var 6) sak_nil))))))) sa_nil))) (sss_kill 2 false (sss_kill 3 false (sss_kill 4 false (sss_kill 5 false sss_nil)))))) (sss_freeze 1 (sss_one (ss_ret (sx_var 1)))))))
    (fun h => nomatch h)
theorem ok_page_at (T_ : Facts K mg) (K_label : Known P w K mg "label" 2 ["kind", "number"] [false, false] false sem_label) : Known P w K mg "page_at" 3 ["parts", "place"] [false, false] false sem_page_at :=
  known_def (k := 2) (Ns := N_page_at) (pl := []) (κ' := [false, false, false, false, false, false, false]) T_.h_page_at (fun _ _ _ _ _ _ us hl => match us, hl with | [_, _], _ => rfl) sc_page_at rfl rfl (fun fa base cdv A outer s H E hr =>
    (sss_cons (ss_asg 2 (sx_var 1) sc_page_at.nd) (sss_cons (ss_for PassesOwn.never rfl (si_any (sx_var 0)) (sg_seq rfl (sgs_cons (sg_name 3 sc_page_at.nd) (sgs_cons (sg_name 4 sc_page_at.nd) (sgs_cons (sg_name 5 sc_page_at.nd) (sgs_cons (sg_name 6 sc_page_at.nd) sgs_nil))))) (sss_cons (κ1 := [false, false, false, false, false, false, false]) (ss_if (st_chain op_le op_lt o2_le o2_lt sx_int (sx_var 2) (sx_var 6)) (sss_one (ss_ret (sx_bin op_addX o2_add (sx_var 3) (sx_ownK K_label (hr.mono (by decide)) (by rfl) (sak_cp (sx_var 4) (sak_cp (sx_bin op_addX o2_add (sx_var 5) (sx_var 2)) sak_nil)))))) sss_nil) (sss_cons (ss_asg 2 (sx_bin op_sub o2_sub (sx_var 2) (sx_var 6)) sc_page_at.nd) (sss_kill 3 false (sss_kill 4 false (sss_kill 5 false (sss_kill 6 false sss_nil))))))) (sss_one (ss_ret sx_non)))))
    (fun h => nomatch h)
theorem ok_places (T_ : Facts K mg) (K_number_of : Known P w K mg "number_of" 3 ["kind", "text"] [false, false] false sem_number_of) : Known P w K mg "places" 4 ["parts", "text"] [false, false] false sem_places :=
  known_def (k := 3) (Ns := N_places) (pl := []) (κ' := [false, false, false, false, false, false, false, false, false]) T_.h_places (fun _ _ _ _ _ _ us hl => match us, hl with | [_, _], _ => rfl) sc_places rfl rfl (fun fa base cdv A outer s H E hr =>
    (sss_cons (ss_asgO 2 (sx_lst sa_nil) sc_places.nd) (sss_cons (ss_asg 3 sx_int sc_places.nd) (sss_cons (ss_for PassesOwn.never rfl (si_any (sx_var 0)) (sg_seq rfl (sgs_cons (sg_name 4 sc_places.nd) (sgs_cons (sg_name 5 sc_places.nd) (sgs_cons (sg_name 6 sc_places.nd) (sgs_cons (sg_name 7 sc_places.nd) sgs_nil))))) (sss_cons (κ1 := [false, false, true, false, false, false, false, false, false]) (ss_if (st_tru (sx_startsX (sx_var 1) (sx_var 4))) (sss_cons (ss_asg 8 (sx_ownK K_number_of (hr.mono (by decide)) (by rfl) (sak_cp (sx_var 5) (sak_cp (sx_sl C8.sl_txt slt_txt (sx_var 1) (so_some (sx_callB call_len fn_len (by rfl) T_.n_len PySem.boot_len (sa_cons (sx_var 4) sa_nil))) so_none) sak_nil))) sc_places.nd) (sss_cons (κ1 := [false, false, true, false, false, false, false, false, false]) (ss_if (PW.pt (sw_and (st_cmp op_isNotP o2_isNot (sx_var 8) sx_non) (sw_and1 (st_chain op_le op_lt o2_le o2_lt (sx_var 6) (sx_var 8) (sx_bin op_addX o2_add (sx_var 6) (sx_var 7)))))) (sss_cons (ss_drop (sx_mut 2 PySem.F.plainAttrs_list PySem.F.slot_list_append PySem.F.type_list_append mt_append mu_app (fun _ _ _ _ _ => tyL) (sa_cons (sx_bin op_sub o2_sub (sx_bin op_addX o2_add (sx_var 3) (sx_var 8)) (sx_var 6)) sa_nil))) sss_nil) sss_nil) sss_nil)) sss_nil) (sss_cons (ss_asg 3 (sx_bin op_addX o2_add (sx_var 3) (sx_var 7)) sc_places.nd) (sss_kill 4 false (sss_kill 5 false (sss_kill 6 false (sss_kill 7 false (sss_kill 8 false sss_nil)))))))) (sss_freeze 2 (sss_one (ss_ret (sx_var 2))))))))
    (fun h => nomatch h)
theorem ok_first_twice (T_ : Facts K mg) (K_labels : Known P w K mg "labels" 3 ["parts"] [false] false sem_labels) : Known P w K mg "first_twice" 4 ["parts"] [false] false sem_first_twice :=
  known_def (k := 3) (Ns := N_first_twice) (pl := []) (κ' := [false, false, false]) T_.h_first_twice (fun _ _ _ _ _ _ us hl => match us, hl with | [_], _ => rfl) sc_first_twice rfl rfl (fun fa base cdv A outer s H E hr =>
    (sss_cons (ss_asgO 1 sx_dnew sc_first_twice.nd) (sss_cons (ss_for PassesOwn.never rfl (si_any (sx_ownK K_labels (hr.mono (by decide)) (by rfl) (sak_cp (sx_var 0) sak_nil))) (sg_name 2 sc_first_twice.nd) (sss_cons (κ1 := [false, true, false]) (ss_if (st_cmp (op_dinE (hu65 hr)) o2_dinE (sx_var 2) (sx_own 1)) (sss_one (ss_ret (sx_var 2))) sss_nil) (sss_cons (ss_setD 1 (hu65 hr) sx_bl (sx_var 2)) (sss_kill 2 false sss_nil)))) (sss_one (ss_ret sx_non)))))
    (fun h => nomatch h)
theorem ok_part_ends (T_ : Facts K mg) : Known P w K mg "part_ends" 1 ["parts"] [false] false sem_part_ends :=
  known_def (k := 0) (Ns := N_part_ends) (pl := []) (κ' := [false, false, false, false, false]) T_.h_part_ends (fun _ _ _ _ _ _ us hl => match us, hl with | [_], _ => rfl) sc_part_ends rfl rfl (fun fa base cdv A outer s H E hr =>
    (sss_cons (ss_asgO 1 (sx_lst sa_nil) sc_part_ends.nd) (sss_cons (ss_asg 2 sx_int sc_part_ends.nd) (sss_cons (ss_for PassesOwn.never rfl (si_any (sx_var 0)) (sg_seq rfl (sgs_cons (sg_name 3 sc_part_ends.nd) (sgs_cons (sg_name 3 sc_part_ends.nd) (sgs_cons (sg_name 3 sc_part_ends.nd) (sgs_cons (sg_name 4 sc_part_ends.nd) sgs_nil))))) (sss_cons (ss_asg 2 (sx_bin op_addX o2_add (sx_var 2) (sx_var 4)) sc_part_ends.nd) (sss_cons (κ1 := [false, true, false, false, false]) (ss_if (st_cmp op_gt o2_gt (sx_var 4) sx_int) (sss_cons (ss_drop (sx_mut 1 PySem.F.plainAttrs_list PySem.F.slot_list_append PySem.F.type_list_append mt_append mu_app (fun _ _ _ _ _ => tyL) (sa_cons (sx_bin op_sub o2_sub (sx_var 2) sx_int) sa_nil))) sss_nil) sss_nil) (sss_kill 3 false (sss_kill 4 false sss_nil))))) (sss_freeze 1 (sss_one (ss_ret (sx_var 1))))))))
    (fun h => nomatch h)
theorem ok_told_short (T_ : Facts K mg) (K_labels : Known P w K mg "labels" 3 ["parts"] [false] false sem_labels) (K_part_ends : Known P w K mg "part_ends" 1 ["parts"] [false] false sem_part_ends) : Known P w K mg "told_short" 4 ["parts", "some"] [false, false] false sem_told_short :=
  known_def (k := 3) (Ns := N_told_short) (pl := []) (κ' := [false, false, false, false, false, false, false, false]) T_.h_told_short (fun _ _ _ _ _ _ us hl => match us, hl with | [_, _], _ => rfl) sc_told_short rfl rfl (fun fa base cdv A outer s H E hr =>
    (sss_cons (ss_asgO 2 (sx_lst sa_nil) sc_told_short.nd) (sss_cons (ss_asg 3 (sx_ownK K_labels (hr.mono (by decide)) (by rfl) (sak_cp (sx_var 0) sak_nil)) sc_told_short.nd) (sss_cons (ss_asg 4 (sx_ownK K_part_ends (hr.mono (by decide)) (by rfl) (sak_cp (sx_var 0) sak_nil)) sc_told_short.nd) (sss_cons (ss_for PassesOwn.never rfl (si_any (sx_last (sx_sortSet rfl (by rfl) T_.n_sorted (by rfl) T_.n_set (sx_var 1)))) (sg_name 5 sc_told_short.nd) (sss_cons (κ1 := [false, false, true, false, false, false, false, false]) (ss_if (PW.pt (sw_and (st_tru (sx_own 2)) (sw_and (st_cmp (op_eqD hr.units) o2_eq (sx_ix ix_seq o2_ix (sx_ix ix_seq o2_ix (sx_own 2) (sx_un un_neg o1_neg sx_int)) sx_int) (sx_bin op_sub o2_sub (sx_var 5) sx_int)) (sw_and1 (st_cmp (op_notInD (hu65 hr)) o2_notIn (sx_bin op_sub o2_sub (sx_var 5) sx_int) (sx_var 4)))))) (sss_cons (ss_setI 2 (sx_tup (sa_cons (sx_ix ix_seq o2_ix (sx_ix ix_seq o2_ix (sx_own 2) (sx_un un_neg o1_neg sx_int)) sx_int) (sa_cons (sx_var 5) sa_nil))) (sx_un un_neg o1_neg sx_int)) sss_nil) (sss_cons (ss_drop (sx_mut 2 PySem.F.plainAttrs_list PySem.F.slot_list_append PySem.F.type_list_append mt_append mu_app (fun _ _ _ _ _ => tyL) (sa_cons (sx_tup (sa_cons (sx_var 5) (sa_cons (sx_var 5) sa_nil))) sa_nil))) sss_nil)) (sss_kill 5 false sss_nil))) (sss_one (ss_ret (sx_last (sx_lc (own' := [("first", 6), ("last", 7)])  rfl sc_told_short.nd (si_own (sx_own 2)) (blkOk_by (N := N_told_short) (sc := defScope S_told_short) (by decide +kernel)) (fun _ _ _ _ _ => (sg_seq rfl (sgs_cons (sg_name 6 sc_told_short.nd) (sgs_cons (sg_name 7 sc_told_short.nd) sgs_nil)))) (fun _ _ _ _ _ => sts_nil) (fun _ _ _ _ _ => (sx_tup (sa_cons (sx_ix ix_seq o2_ix (sx_var 3) (sx_var 6)) (sa_cons (sx_ix ix_seq o2_ix (sx_var 3) (sx_var 7)) sa_nil)))))))))))))
    (fun h => nomatch h)
theorem ok__law_mixed (T_ : Facts K mg) : Known P w K mg "_law_mixed" 1 ["number", "place"] [false, false] false sem__law_mixed :=
  known_def (k := 0) (Ns := N__law_mixed) (pl := []) (κ' := [false, false, false, false, false]) T_.h__law_mixed (fun _ _ _ _ _ _ us hl => match us, hl with | [_, _], _ => rfl) sc__law_mixed rfl rfl (fun fa base cdv A outer s H E hr =>
    (sss_cons (ss_asg 2 (sx_bin op_modN o2_mod (sx_callTy call_int1 fn_int (by rfl) T_.n_int (by decide +kernel) (sa_cons (sx_bin op_addX o2_add (sx_bin op_addX o2_add (sx_bin op_mulY o2_mul (sx_var 0) sx_int) (sx_bin op_mulY o2_mul (sx_var 1) sx_int)) sx_int) sa_nil)) sx_int) sc__law_mixed.nd) (sss_cons (ss_asg 3 (sx_bin op_modN o2_mod (sx_callTy call_int1 fn_int (by rfl) T_.n_int (by decide +kernel) (sa_cons (sx_bin op_addX o2_add (sx_bin op_addX o2_add (sx_bin op_mulY o2_mul (sx_var 2) (sx_var 2)) (sx_bin op_mulY o2_mul sx_int (sx_var 2))) (sx_var 1)) sa_nil)) sx_int) sc__law_mixed.nd) (sss_cons (ss_asg 4 (sx_bin op_modN o2_mod (sx_callTy call_int1 fn_int (by rfl) T_.n_int (by decide +kernel) (sa_cons (sx_bin op_addX o2_add (sx_bin op_mulY o2_mul (sx_var 3) (sx_var 3)) (sx_var 2)) sa_nil)) sx_int) sc__law_mixed.nd) (sss_one (ss_ret (sx_bin op_addX o2_add (sx_bin op_mulY o2_mul (sx_var 3) sx_int) (sx_var 4))))))))
    (fun h => nomatch h)
theorem ok__law_rest (T_ : Facts K mg) (K__law_mixed : Known P w K mg "_law_mixed" 1 ["number", "place"] [false, false] false sem__law_mixed) : Known P w K mg "_law_rest" 2 ["script", "place", "fills"] [false, false, false] false sem__law_rest :=
  known_def (k := 1) (Ns := N__law_rest) (pl := []) (κ' := [false, false, false, false]) T_.h__law_rest (fun _ _ _ _ _ _ us hl => match us, hl with | [_, _, _], _ => rfl) sc__law_rest rfl rfl (fun fa base cdv A outer s H E hr =>
    (sss_cons (ss_asg 3 sx_int sc__law_rest.nd) (sss_cons (κ1 := [false, false, false, false]) (ss_if (st_cmp op_gt o2_gt (sx_callB call_len fn_len (by rfl) T_.n_len PySem.boot_len (sa_cons (sx_var 0) sa_nil)) sx_int) (sss_cons (ss_asg 3 (sx_callTy call_int1 fn_int (by rfl) T_.n_int (by decide +kernel) (sa_cons (sx_ix ix_seq o2_ix (sx_var 0) (sx_bin op_modN o2_mod (sx_callTy call_int1 fn_int (by rfl) T_.n_int (by decide +kernel) (sa_cons (sx_var 1) sa_nil)) (sx_callB call_len fn_len (by rfl) T_.n_len PySem.boot_len (sa_cons (sx_var 0) sa_nil)))) sa_nil)) sc__law_rest.nd) sss_nil) sss_nil) (sss_cons (κ1 := [false, false, false, false]) (ss_if (st_cmp op_lt o2_lt (sx_var 3) sx_int) (sss_cons (ss_asg 3 (sx_bin op_sub o2_sub sx_int (sx_bin op_mulY o2_mul sx_int (sx_var 3))) sc__law_rest.nd) sss_nil) sss_nil) (sss_cons (κ1 := [false, false, false, false]) (ss_if (PW.pt (sw_and (st_cmp (op_eqD hr.units) o2_eq (sx_var 2) sx_int) (sw_and (st_cmp op_lt o2_lt (sx_var 1) (sx_callB call_len fn_len (by rfl) T_.n_len PySem.boot_len (sa_cons (sx_var 0) sa_nil))) (sw_and1 (st_cmp op_ge o2_ge (sx_var 3) (sx_bin op_pow o2_pow sx_int sx_int)))))) (sss_one (ss_ret (sx_bin op_sub o2_sub (sx_var 3) (sx_bin op_pow o2_pow sx_int sx_int)))) sss_nil) (sss_one (ss_ret (sx_ownK K__law_mixed (hr.mono (by decide)) (by rfl) (sak_cp (sx_bin op_addX o2_add (sx_var 3) (sx_bin op_mulY o2_mul (sx_var 2) sx_int)) (sak_cp (sx_var 1) sak_nil))))))))))
    (fun h => nomatch h)
theorem ok__law_pool (T_ : Facts K mg) (K__law_rest : Known P w K mg "_law_rest" 2 ["script", "place", "fills"] [false, false, false] false sem__law_rest) : Known P w K mg "_law_pool" 3 ["script"] [false] true sem__law_pool :=
  known_def (k := 2) (Ns := N__law_pool) (pl := []) (κ' := [false]) T_.h__law_pool (fun _ _ _ _ _ _ us hl => match us, hl with | [_], _ => rfl) sc__law_pool rfl rfl (fun fa base cdv A outer s H E hr =>
    (sss_one (ss_retO (sx_lst (sa_cons (sx_var 0) (sa_cons sx_int (sa_cons (sx_ownK K__law_rest (hr.mono (by decide)) (by rfl) (sak_cp (sx_var 0) (sak_cp sx_int (sak_cp sx_int sak_nil)))) (sa_cons sx_int sa_nil))))))))
    (fun _ => by
      show NoNx F__law_pool
      unfold F__law_pool
      repeat' (first | exact noNx_ret | exact noNx_no | refine noNx_seq ?_ | refine noNx_if ?_ ?_ | refine noNx_kill ?_))
theorem ok__law_next (T_ : Facts K mg) (K__law_rest : Known P w K mg "_law_rest" 2 ["script", "place", "fills"] [false, false, false] false sem__law_rest) : Known P w K mg "_law_next" 3 ["pool"] [true] false sem__law_next :=
  known_def (k := 2) (Ns := N__law_next) (pl := [0]) (κ' := [true]) T_.h__law_next (fun _ _ _ _ _ _ us hl => match us, hl with | [_], _ => rfl) sc__law_next rfl rfl (fun fa base cdv A outer s H E hr =>
    (sss_cons (ss_setI 0 (sx_bin op_addX o2_add (sx_ix ix_seq o2_ix (sx_own 0) sx_int) sx_int) sx_int) (sss_cons (ss_setI 0 (sx_ownK K__law_rest (hr.mono (by decide)) (by rfl) (sak_cp (sx_ix ix_seq o2_ix (sx_own 0) sx_int) (sak_cp (sx_ix ix_seq o2_ix (sx_own 0) sx_int) (sak_cp sx_int sak_nil)))) sx_int) (sss_cons (ss_setI 0 sx_int sx_int) sss_nil))))
    (fun h => nomatch h)
theorem ok__law_draw (T_ : Facts K mg) (K__law_rest : Known P w K mg "_law_rest" 2 ["script", "place", "fills"] [false, false, false] false sem__law_rest) : Known P w K mg "_law_draw" 3 ["pool", "limit"] [true, false] false sem__law_draw :=
  known_def (k := 2) (Ns := N__law_draw) (pl := [0]) (κ' := [false, false, false]) T_.h__law_draw (fun _ _ _ _ _ _ us hl => match us, hl with | [_, _], _ => rfl) sc__law_draw rfl rfl (fun fa base cdv A outer s H E hr =>
    (sss_cons (κ1 := [true, false, false]) (ss_if (st_cmp op_le o2_le (sx_ix ix_seq o2_ix (sx_own 0) sx_int) sx_int) (sss_cons (ss_setI 0 (sx_bin op_addX o2_add (sx_ix ix_seq o2_ix (sx_own 0) sx_int) sx_int) sx_int) (sss_cons (ss_setI 0 (sx_ownK K__law_rest (hr.mono (by decide)) (by rfl) (sak_cp (sx_ix ix_seq o2_ix (sx_own 0) sx_int) (sak_cp (sx_ix ix_seq o2_ix (sx_own 0) sx_int) (sak_cp (sx_ix ix_seq o2_ix (sx_own 0) sx_int) sak_nil)))) sx_int) sss_nil)) sss_nil) (sss_cons (ss_asg 2 (sx_bin op_modN o2_mod (sx_callTy call_int1 fn_int (by rfl) T_.n_int (by decide +kernel) (sa_cons (sx_ix ix_seq o2_ix (sx_own 0) sx_int) sa_nil)) (sx_var 1)) sc__law_draw.nd) (sss_cons (ss_setI 0 (sx_bin op_divX o2_div (sx_callTy call_int1 fn_int (by rfl) T_.n_int (by decide +kernel) (sa_cons (sx_ix ix_seq o2_ix (sx_own 0) sx_int) sa_nil)) (sx_var 1)) sx_int) (sss_one (ss_ret (sx_var 2)))))))
    (fun h => nomatch h)
theorem ok__law_pick (T_ : Facts K mg) (K__law_draw : Known P w K mg "_law_draw" 3 ["pool", "limit"] [true, false] false sem__law_draw) : Known P w K mg "_law_pick" 4 ["pool", "options"] [true, false] false sem__law_pick :=
  known_def (k := 3) (Ns := N__law_pick) (pl := [0]) (κ' := [false, false]) T_.h__law_pick (fun _ _ _ _ _ _ us hl => match us, hl with | [_, _], _ => rfl) sc__law_pick rfl rfl (fun fa base cdv A outer s H E hr =>
    (sss_one (ss_ret (sx_ix ix_seq o2_ix (sx_var 1) (sx_ownK K__law_draw (hr.mono (by decide)) (by rfl) (sak_io 0 (sak_cp (sx_callB call_len fn_len (by rfl) T_.n_len PySem.boot_len (sa_cons (sx_var 1) sa_nil)) sak_nil)))))))
    (fun h => nomatch h)
theorem ok__law_same (T_ : Facts K mg) : ∀ n, Known P w K mg "_law_same" (1 + n) ["answer", "due"] [false, false] false (semR__law_same n)
  | 0 => known_zero T_.h__law_same (fun _ _ _ _ _ _ us hl => match us, hl with | [_, _], _ => rfl) fun _ => rfl
  | n + 1 => known_def (Ns := N__law_same) (pl := []) (κ' := [false, false, false, false]) T_.h__law_same (fun _ _ _ _ _ _ us hl => match us, hl with | [_, _], _ => rfl) sc__law_same rfl rfl (fun fa base cdv A outer s H E hr => by
    have KS := ok__law_same T_ n
    exact (sss_cons (κ1 := [false, false, false, false]) (ss_if (PW.pt (sw_or (st_cmp op_isP o2_is (sx_var 1) sx_non) (sw_or (st_cmp op_isP o2_is (sx_var 1) sx_bl) (sw_or1 (st_cmp op_isP o2_is (sx_var 1) sx_bl))))) (sss_one (ss_ret (sx_or (sx_and (sx_cmp op_isP o2_is (sx_var 1) sx_non) (sx_one (sx_cmp op_isP o2_is (sx_var 0) sx_non))) (sx_or (sx_and (sx_cmp op_isP o2_is (sx_var 1) sx_bl) (sx_one (sx_cmp op_isP o2_is (sx_var 0) sx_bl))) (sx_one (sx_and (sx_cmp op_isP o2_is (sx_var 1) sx_bl) (sx_one (sx_cmp op_isP o2_is (sx_var 0) sx_bl)))))))) sss_nil) (sss_cons (κ1 := [false, false, false, false]) (ss_if (st_tru (sx_isi "int" (sx_var 1) (by rfl) T_.n_isinstance (by decide +kernel) (by rfl) T_.n_int (by decide +kernel))) (sss_one (ss_ret (sx_and (sx_isi "int" (sx_var 0) (by rfl) T_.n_isinstance (by decide +kernel) (by rfl) T_.n_int (by decide +kernel)) (sx_and (sx_not (sx_isi "bool" (sx_var 0) (by rfl) T_.n_isinstance (by decide +kernel) (by rfl) T_.n_bool (by decide +kernel))) (sx_one (sx_cmp (op_eqD hr.units) o2_eq (sx_var 0) (sx_var 1))))))) sss_nil) (sss_cons (κ1 := [false, false, false, false]) (ss_if (st_tru (sx_isi "str" (sx_var 1) (by rfl) T_.n_isinstance (by decide +kernel) (by rfl) T_.n_str (by decide +kernel))) (sss_one (ss_ret (sx_and (sx_isi "str" (sx_var 0) (by rfl) T_.n_isinstance (by decide +kernel) (by rfl) T_.n_str (by decide +kernel)) (sx_one (sx_cmp (op_eqD hr.units) o2_eq (sx_var 0) (sx_var 1)))))) sss_nil) (sss_cons (κ1 := [false, false, false, false]) (ss_if (st_tru (sx_isi "dict" (sx_var 1) (by rfl) T_.n_isinstance (by decide +kernel) (by rfl) T_.n_dict (by decide +kernel))) (sss_cons (κ1 := [false, false, false, false]) (ss_if (PW.pt (sw_or (st_not (st_tru (sx_isi "dict" (sx_var 0) (by rfl) T_.n_isinstance (by decide +kernel) (by rfl) T_.n_dict (by decide +kernel)))) (sw_or1 (st_cmp (op_neD hr.units) o2_ne (sx_callB call_len fn_len (by rfl) T_.n_len PySem.boot_len (sa_cons (sx_var 0) sa_nil)) (sx_callB call_len fn_len (by rfl) T_.n_len PySem.boot_len (sa_cons (sx_var 1) sa_nil)))))) (sss_one (ss_ret sx_bl)) sss_nil) (sss_cons (ss_for PassesOwn.never rfl (si_own (sx_var 1)) (sg_name 2 sc__law_same.nd) (sss_cons (κ1 := [false, false, false, false]) (ss_if (PW.pt (sw_or (st_cmp (op_notInD (hu65 hr)) o2_notIn (sx_var 2) (sx_var 0)) (sw_or1 (st_not (st_tru (sx_ownK KS (hr.mono (by first | exact Nat.le_refl _ | decide)) (by rfl) (sak_cp (sx_ix ix_seq o2_ix (sx_var 0) (sx_var 2)) (sak_cp (sx_ix ix_seq o2_ix (sx_var 1) (sx_var 2)) sak_nil)))))))) (sss_one (ss_ret sx_bl)) sss_nil) (sss_kill 2 false sss_nil))) (sss_one (ss_ret sx_bl)))) sss_nil) (sss_cons (κ1 := [false, false, false, false]) (ss_if (PW.pt (sw_and (st_tru (sx_isi "tuple" (sx_var 1) (by rfl) T_.n_isinstance (by decide +kernel) (by rfl) T_.n_tuple (by decide +kernel))) (sw_and1 (st_not (st_tru (sx_isi "tuple" (sx_var 0) (by rfl) T_.n_isinstance (by decide +kernel) (by rfl) T_.n_tuple (by decide +kernel))))))) (sss_one (ss_ret sx_bl)) sss_nil) (sss_cons (κ1 := [false, false, false, false]) (ss_if (PW.pt (sw_and (st_tru (sx_isi "list" (sx_var 1) (by rfl) T_.n_isinstance (by decide +kernel) (by rfl) T_.n_list (by decide +kernel))) (sw_and1 (st_not (st_tru (sx_isi "list" (sx_var 0) (by rfl) T_.n_isinstance (by decide +kernel) (by rfl) T_.n_list (by decide +kernel))))))) (sss_one (ss_ret sx_bl)) sss_nil) (sss_cons (κ1 := [false, false, false, false]) (ss_if (st_cmp (op_neD hr.units) o2_ne (sx_callB call_len fn_len (by rfl) T_.n_len PySem.boot_len (sa_cons (sx_var 0) sa_nil)) (sx_callB call_len fn_len (by rfl) T_.n_len PySem.boot_len (sa_cons (sx_var 1) sa_nil))) (sss_one (ss_ret sx_bl)) sss_nil) (sss_cons (ss_for PassesOwn.never rfl (si_r1 (by rfl) T_.n_range (sa_cons (sx_callB call_len fn_len (by rfl) T_.n_len PySem.boot_len (sa_cons (sx_var 1) sa_nil)) sa_nil)) (sg_name 3 sc__law_same.nd) (sss_cons (κ1 := [false, false, false, false]) (ss_if (st_not (st_tru (sx_ownK KS (hr.mono (by first | exact Nat.le_refl _ | decide)) (by rfl) (sak_cp (sx_ix ix_seq o2_ix (sx_var 0) (sx_var 3)) (sak_cp (sx_ix ix_seq o2_ix (sx_var 1) (sx_var 3)) sak_nil))))) (sss_one (ss_ret sx_bl)) sss_nil) (sss_kill 3 false sss_nil))) (sss_one (ss_ret sx_bl))))))))))) (fun h => nomatch h)
theorem ok__law_parts (T_ : Facts K mg) (K__law_draw : Known P w K mg "_law_draw" 3 ["pool", "limit"] [true, false] false sem__law_draw) (K__law_next : Known P w K mg "_law_next" 3 ["pool"] [true] false sem__law_next) (K__law_pick : Known P w K mg "_law_pick" 4 ["pool", "options"] [true, false] false sem__law_pick) : Known P w K mg "_law_parts" 5 ["pool"] [true] false sem__law_parts :=
  known_def (k := 4) (Ns := N__law_parts) (pl := [0]) (κ' := [false, false, false, false, false]) T_.h__law_parts (fun _ _ _ _ _ _ us hl => match us, hl with | [_], _ => rfl) sc__law_parts rfl rfl (fun fa base cdv A outer s H E hr =>
    (sss_cons (ss_asgO 1 (sx_lst sa_nil) sc__law_parts.nd) (sss_cons (ss_for PassesOwn.never rfl (si_r1 (by rfl) T_.n_range (sa_cons (sx_ownK K__law_draw (hr.mono (by decide)) (by rfl) (sak_io 0 (sak_cp sx_int sak_nil))) sa_nil)) (sg_name 2 sc__law_parts.nd) (sss_cons (ss_drop (sx_ownK K__law_next (hr.mono (by decide)) (by rfl) (sak_io 0 sak_nil))) (sss_cons (ss_asg 3 (sx_ownK K__law_pick (hr.mono (by decide)) (by rfl) (sak_io 0 (sak_cp (sx_last (sx_lst (sa_cons sx_str (sa_cons sx_str (sa_cons sx_str (sa_cons sx_str sa_nil)))))) sak_nil))) sc__law_parts.nd) (sss_cons (ss_asg 4 (sx_ownK K__law_pick (hr.mono (by decide)) (by rfl) (sak_io 0 (sak_cp (sx_last (sx_lst (sa_cons sx_str (sa_cons sx_str (sa_cons sx_str sa_nil))))) sak_nil))) sc__law_parts.nd) (sss_cons (ss_drop (sx_mut 1 PySem.F.plainAttrs_list PySem.F.slot_list_append PySem.F.type_list_append mt_append mu_app (fun _ _ _ _ _ => tyL) (sa_cons (sx_tup (sa_cons (sx_var 3) (sa_cons (sx_var 4) (sa_cons (sx_bin op_addX o2_add sx_int (sx_ownK K__law_draw (hr.mono (by decide)) (by rfl) (sak_io 0 (sak_cp (sx_ownK K__law_pick (hr.mono (by decide)) (by rfl) (sak_io 0 (sak_cp (sx_last (sx_lst (sa_cons sx_int (sa_cons sx_int sa_nil)))) sak_nil))) sak_nil)))) (sa_cons (sx_ownK K__law_draw (hr.mono (by decide)) (by rfl) (sak_io 0 (sak_cp sx_int sak_nil))) sa_nil))))) sa_nil))) (sss_kill 2 false (sss_kill 3 false (sss_kill 4 false sss_nil)))))))) (sss_freeze 1 (sss_one (ss_ret (sx_var 1)))))))
    (fun h => nomatch h)
theorem ok__law_labels (T_ : Facts K mg) (K_numeral : Known P w K mg "numeral" 1 ["number"] [false] false sem_numeral) (K_letters : Known P w K mg "letters" 1 ["number"] [false] false sem_letters) : Known P w K mg "_law_labels" 2 ["parts"] [false] false sem__law_labels :=
  known_def (k := 1) (Ns := N__law_labels) (pl := []) (κ' := [false, false, false, false, false, false, false, false]) T_.h__law_labels (fun _ _ _ _ _ _ us hl => match us, hl with | [_], _ => rfl) sc__law_labels rfl rfl (fun fa base cdv A outer s H E hr =>
    (sss_cons (ss_asgO 1 (sx_lst sa_nil) sc__law_labels.nd) (sss_cons (ss_for PassesOwn.never rfl (si_any (sx_var 0)) (sg_seq rfl (sgs_cons (sg_name 2 sc__law_labels.nd) (sgs_cons (sg_name 3 sc__law_labels.nd) (sgs_cons (sg_name 4 sc__law_labels.nd) (sgs_cons (sg_name 5 sc__law_labels.nd) sgs_nil))))) (sss_cons (ss_for PassesOwn.never rfl (si_r2 (by rfl) T_.n_range (sa_cons (sx_var 4) (sa_cons (sx_bin op_addX o2_add (sx_var 4) (sx_var 5)) sa_nil))) (sg_name 6 sc__law_labels.nd) (sss_cons (ss_asg 7 (sx_if (st_cmp (op_eqD hr.units) o2_eq (sx_var 3) sx_str) (sx_ownK K_numeral (hr.mono (by decide)) (by rfl) (sak_cp (sx_var 6) sak_nil)) (sx_if (st_cmp (op_eqD hr.units) o2_eq (sx_var 3) sx_str) (sx_callTy call_str_int fn_str (by rfl) T_.n_str (by decide +kernel) (sa_cons (sx_var 6) sa_nil)) (sx_ownK K_letters (hr.mono (by decide)) (by rfl) (sak_cp (sx_var 6) sak_nil)))) sc__law_labels.nd) (sss_cons (ss_drop (sx_mut 1 PySem.F.plainAttrs_list PySem.F.slot_list_append PySem.F.type_list_append mt_append mu_app (fun _ _ _ _ _ => tyL) (sa_cons (sx_bin op_addX o2_add (sx_var 2) (sx_var 7)) sa_nil))) sss_nil))) (sss_kill 2 false (sss_kill 3 false (sss_kill 4 false (sss_kill 5 false (sss_kill 6 false (sss_kill 7 false sss_nil)))))))) (sss_freeze 1 (sss_one (ss_ret (sx_var 1)))))))
    (fun h => nomatch h)
theorem ok__law_ends (T_ : Facts K mg) : Known P w K mg "_law_ends" 1 ["parts"] [false] false sem__law_ends :=
  known_def (k := 0) (Ns := N__law_ends) (pl := []) (κ' := [false, false, false, false, false, false, false]) T_.h__law_ends (fun _ _ _ _ _ _ us hl => match us, hl with | [_], _ => rfl) sc__law_ends rfl rfl (fun fa base cdv A outer s H E hr =>
    (sss_cons (ss_asg 1 (sx_last (sx_lst sa_nil)) sc__law_ends.nd) (sss_cons (ss_asg 2 sx_int sc__law_ends.nd) (sss_cons (ss_for PassesOwn.never rfl (si_any (sx_var 0)) (sg_seq rfl (sgs_cons (sg_name 3 sc__law_ends.nd) (sgs_cons (sg_name 4 sc__law_ends.nd) (sgs_cons (sg_name 5 sc__law_ends.nd) (sgs_cons (sg_name 6 sc__law_ends.nd) sgs_nil))))) (sss_cons (ss_asg 2 (sx_bin op_addX o2_add (sx_var 2) (sx_var 6)) sc__law_ends.nd) (sss_cons (ss_asg 1 (sx_if (st_cmp op_gt o2_gt (sx_var 6) sx_int) (sx_bin op_addX o2_add (sx_var 1) (sx_last (sx_lst (sa_cons (sx_bin op_sub o2_sub (sx_var 2) sx_int) sa_nil)))) (sx_var 1)) sc__law_ends.nd) (sss_kill 3 false (sss_kill 4 false (sss_kill 5 false (sss_kill 6 false sss_nil))))))) (sss_one (ss_ret (sx_var 1)))))))
    (fun h => nomatch h)
theorem ok__law_short (T_ : Facts K mg) (K__law_labels : Known P w K mg "_law_labels" 2 ["parts"] [false] false sem__law_labels) (K__law_ends : Known P w K mg "_law_ends" 1 ["parts"] [false] false sem__law_ends) : Known P w K mg "_law_short" 3 ["parts", "some"] [false, false] false sem__law_short :=
  known_def (k := 2) (Ns := N__law_short) (pl := []) (κ' := [false, false, false, false, false, false, false]) T_.h__law_short (fun _ _ _ _ _ _ us hl => match us, hl with | [_, _], _ => rfl) sc__law_short rfl rfl (fun fa base cdv A outer s H E hr =>
    (sss_cons (ss_asg 2 (sx_ownK K__law_labels (hr.mono (by decide)) (by rfl) (sak_cp (sx_var 0) sak_nil)) sc__law_short.nd) (sss_cons (ss_asg 3 (sx_ownK K__law_ends (hr.mono (by decide)) (by rfl) (sak_cp (sx_var 0) sak_nil)) sc__law_short.nd) (sss_cons (ss_asgO 4 (sx_lst sa_nil) sc__law_short.nd) (sss_cons (ss_asg 5 sx_non sc__law_short.nd) (sss_cons (ss_for PassesOwn.never rfl (si_r1 (by rfl) T_.n_range (sa_cons (sx_callB call_len fn_len (by rfl) T_.n_len PySem.boot_len (sa_cons (sx_var 2) sa_nil)) sa_nil)) (sg_name 6 sc__law_short.nd) (sss_cons (κ1 := [false, false, false, false, true, false, false]) (ss_if (st_cmp (op_inD (hu65 hr)) o2_in (sx_var 6) (sx_var 1)) (sss_cons (ss_asg 5 (sx_if (st_cmp op_isP o2_is (sx_var 5) sx_non) (sx_var 6) (sx_var 5)) sc__law_short.nd) (sss_cons (κ1 := [false, false, false, false, true, false, false]) (ss_if (PW.pt (sw_or (st_cmp (op_inD (hu65 hr)) o2_in (sx_var 6) (sx_var 3)) (sw_or1 (st_cmp (op_notInD (hu65 hr)) o2_notIn (sx_bin op_addX o2_add (sx_var 6) sx_int) (sx_var 1))))) (sss_cons (ss_drop (sx_mut 4 PySem.F.plainAttrs_list PySem.F.slot_list_append PySem.F.type_list_append mt_append mu_app (fun _ _ _ _ _ => tyL) (sa_cons (sx_tup (sa_cons (sx_ix ix_seq o2_ix (sx_var 2) (sx_var 5)) (sa_cons (sx_ix ix_seq o2_ix (sx_var 2) (sx_var 6)) sa_nil))) sa_nil))) (sss_cons (ss_asg 5 sx_non sc__law_short.nd) sss_nil)) sss_nil) sss_nil)) sss_nil) (sss_kill 6 false sss_nil))) (sss_freeze 4 (sss_one (ss_ret (sx_var 4))))))))))
    (fun h => nomatch h)
theorem ok_law (T_ : Facts K mg) (K__law_pool : Known P w K mg "_law_pool" 3 ["script"] [false] true sem__law_pool) (K__law_parts : Known P w K mg "_law_parts" 5 ["pool"] [true] false sem__law_parts) (K__law_labels : Known P w K mg "_law_labels" 2 ["parts"] [false] false sem__law_labels) (K__law_same : Known P w K mg "_law_same" 9 ["answer", "due"] [false, false] false sem__law_same) (K__law_pick : Known P w K mg "_law_pick" 4 ["pool", "options"] [true, false] false sem__law_pick) (K_first_twice : Known P w K mg "first_twice" 4 ["parts"] [false] false sem_first_twice) (K__law_draw : Known P w K mg "_law_draw" 3 ["pool", "limit"] [true, false] false sem__law_draw) (K_labels : Known P w K mg "labels" 3 ["parts"] [false] false sem_labels) (K_part_ends : Known P w K mg "part_ends" 1 ["parts"] [false] false sem_part_ends) (K__law_ends : Known P w K mg "_law_ends" 1 ["parts"] [false] false sem__law_ends) (K_page_at : Known P w K mg "page_at" 3 ["parts", "place"] [false, false] false sem_page_at) (K_places : Known P w K mg "places" 4 ["parts", "text"] [false, false] false sem_places) (K_told_short : Known P w K mg "told_short" 4 ["parts", "some"] [false, false] false sem_told_short) (K__law_short : Known P w K mg "_law_short" 3 ["parts", "some"] [false, false] false sem__law_short) : Known P w K mg "law" 10 ["script"] [false] false sem_law :=
  known_def (k := 9) (Ns := N_law) (pl := []) (κ' := [false, false, false, false, false, false, false, false, false, false, false, false]) T_.h_law (fun _ _ _ _ _ _ us hl => match us, hl with | [_], _ => rfl) sc_law rfl rfl (fun fa base cdv A outer s H E hr =>
    (sss_cons (ss_asgO 1 (sx_ownK K__law_pool (hr.mono (by decide)) (by rfl) (sak_cp (sx_var 0) sak_nil)) sc_law.nd) (sss_cons (ss_asg 2 (sx_ownK K__law_parts (hr.mono (by decide)) (by rfl) (sak_io 1 sak_nil)) sc_law.nd) (sss_cons (ss_asg 3 (sx_ownK K__law_labels (hr.mono (by decide)) (by rfl) (sak_cp (sx_var 2) sak_nil)) sc_law.nd) (sss_cons (ss_asg 4 (sx_last (sx_callTy call_list_of fn_listOf (by rfl) T_.n_list (by decide +kernel) (sa_cons (sx_var 2) sa_nil))) sc_law.nd) (sss_cons (κ1 := [false, true, false, false, false, false, false, false, false, false, false, false]) (ss_if (PW.pt (sw_or (st_not (st_tru (sx_ownK K__law_same (hr.mono (by decide)) (by rfl) (sak_cp (sx_ownK K_labels (hr.mono (by decide)) (by rfl) (sak_cp (sx_var 4) sak_nil)) (sak_cp (sx_var 3) sak_nil))))) (sw_or1 (st_not (st_tru (sx_ownK K__law_same (hr.mono (by decide)) (by rfl) (sak_cp (sx_ownK K_part_ends (hr.mono (by decide)) (by rfl) (sak_cp (sx_var 4) sak_nil)) (sak_cp (sx_ownK K__law_ends (hr.mono (by decide)) (by rfl) (sak_cp (sx_var 2) sak_nil)) sak_nil)))))))) (sss_one (ss_ret sx_bl)) sss_nil) (sss_cons (ss_setLc 5 false (own' := [("k", 11)])  rfl sc_law.nd (si_r1 (by rfl) T_.n_range (sa_cons (sx_callB call_len fn_len (by rfl) T_.n_len PySem.boot_len (sa_cons (sx_var 3) sa_nil)) sa_nil)) (blkOk_by (N := N_law) (sc := defScope S_law) (by decide +kernel)) (fun _ _ _ _ _ => (sg_name 11 sc_law.nd)) (fun _ _ _ _ _ => (sts_one (st_cmp (op_inD (hu65 hr)) o2_in (sx_ix ix_seq o2_ix (sx_var 3) (sx_var 11)) (sx_sl sl_seq slt_seq (sx_var 3) so_none (so_some (sx_var 11)))))) (fun _ _ _ _ _ => (sx_ix ix_seq o2_ix (sx_var 3) (sx_var 11))) (sw_true rfl rfl rfl (by decide +kernel))) (sss_cons (κ1 := [false, true, false, false, false, false, false, false, false, false, false, false]) (ss_if (st_not (st_tru (sx_ownK K__law_same (hr.mono (by decide)) (by rfl) (sak_cp (sx_ownK K_first_twice (hr.mono (by decide)) (by rfl) (sak_cp (sx_var 4) sak_nil)) (sak_cp (sx_if (st_cmp op_gt o2_gt (sx_callB call_len fn_len (by rfl) T_.n_len PySem.boot_len (sa_cons (sx_var 5) sa_nil)) sx_int) (sx_ix ix_seq o2_ix (sx_var 5) sx_int) sx_non) sak_nil))))) (sss_one (ss_ret sx_bl)) sss_nil) (sss_cons (ss_for PassesOwn.never rfl (si_r1 (by rfl) T_.n_range (sa_cons sx_int sa_nil)) (sg_name 6 sc_law.nd) (sss_cons (ss_asg 7 (sx_bin op_sub o2_sub (sx_ownK K__law_draw (hr.mono (by decide)) (by rfl) (sak_io 1 (sak_cp (sx_bin op_addX o2_add (sx_callB call_len fn_len (by rfl) T_.n_len PySem.boot_len (sa_cons (sx_var 3) sa_nil)) sx_int) sak_nil))) sx_int) sc_law.nd) (sss_cons (κ1 := [false, true, false, false, false, false, false, false, false, false, false, false]) (ss_if (st_not (st_tru (sx_ownK K__law_same (hr.mono (by decide)) (by rfl) (sak_cp (sx_ownK K_page_at (hr.mono (by decide)) (by rfl) (sak_cp (sx_var 4) (sak_cp (sx_var 7) sak_nil))) (sak_cp (sx_if (st_chain op_le op_lt o2_le o2_lt sx_int (sx_var 7) (sx_callB call_len fn_len (by rfl) T_.n_len PySem.boot_len (sa_cons (sx_var 3) sa_nil))) (sx_ix ix_seq o2_ix (sx_var 3) (sx_var 7)) sx_non) sak_nil))))) (sss_one (ss_ret sx_bl)) sss_nil) (sss_cons (ss_asg 8 (sx_if (st_cmp op_gt o2_gt (sx_callB call_len fn_len (by rfl) T_.n_len PySem.boot_len (sa_cons (sx_var 3) sa_nil)) sx_int) (sx_ownK K__law_pick (hr.mono (by decide)) (by rfl) (sak_io 1 (sak_cp (sx_var 3) sak_nil))) sx_str) sc_law.nd) (sss_cons (ss_asg 8 (sx_ownK K__law_pick (hr.mono (by decide)) (by rfl) (sak_io 1 (sak_cp (sx_last (sx_lst (sa_cons (sx_var 8) (sa_cons (sx_sl C8.sl_txt slt_txt (sx_var 8) (so_some sx_int) so_none) (sa_cons (sx_bin op_addX o2_add (sx_var 8) sx_str) (sa_cons (sx_bin op_addX o2_add sx_str (sx_var 8)) (sa_cons (sx_bin op_addX o2_add sx_str (sx_var 8)) (sa_cons (sx_bin op_addX o2_add sx_str (sx_var 8)) sa_nil)))))))) sak_nil))) sc_law.nd) (sss_cons (κ1 := [false, true, false, false, false, false, false, false, false, false, false, false]) (ss_if (st_not (st_tru (sx_ownK K__law_same (hr.mono (by decide)) (by rfl) (sak_cp (sx_ownK K_places (hr.mono (by decide)) (by rfl) (sak_cp (sx_var 4) (sak_cp (sx_var 8) sak_nil))) (sak_cp (sx_last (sx_lc (own' := [("k", 11)])  rfl sc_law.nd (si_r1 (by rfl) T_.n_range (sa_cons (sx_callB call_len fn_len (by rfl) T_.n_len PySem.boot_len (sa_cons (sx_var 3) sa_nil)) sa_nil)) (blkOk_by (N := N_law) (sc := defScope S_law) (by decide +kernel)) (fun _ _ _ _ _ => (sg_name 11 sc_law.nd)) (fun _ _ _ _ _ => (sts_one (st_cmp (op_eqD hr.units) o2_eq (sx_ix ix_seq o2_ix (sx_var 3) (sx_var 11)) (sx_var 8)))) (fun _ _ _ _ _ => (sx_var 11)))) sak_nil))))) (sss_one (ss_ret sx_bl)) sss_nil) (sss_cons (ss_setLc 9 false (own' := [("k", 11)])  rfl sc_law.nd (si_r1 (by rfl) T_.n_range (sa_cons (sx_callB call_len fn_len (by rfl) T_.n_len PySem.boot_len (sa_cons (sx_var 3) sa_nil)) sa_nil)) (blkOk_by (N := N_law) (sc := defScope S_law) (by decide +kernel)) (fun _ _ _ _ _ => (sg_name 11 sc_law.nd)) (fun _ _ _ _ _ => (sts_one (st_cmp op_gt o2_gt (sx_ownK K__law_draw (hr.mono (by decide)) (by rfl) (sak_io 1 (sak_cp sx_int sak_nil))) sx_int))) (fun _ _ _ _ _ => (sx_var 11)) (sw_true rfl rfl rfl (by decide +kernel))) (sss_cons (ss_asg 10 (sx_bin op_addX o2_add (sx_last (sx_rev (sx_var 9))) (sx_sl sl_seq slt_seq (sx_var 9) so_none (so_some sx_int))) sc_law.nd) (sss_cons (κ1 := [false, true, false, false, false, false, false, false, false, false, false, false]) (ss_if (st_not (st_tru (sx_ownK K__law_same (hr.mono (by decide)) (by rfl) (sak_cp (sx_ownK K_told_short (hr.mono (by decide)) (by rfl) (sak_cp (sx_var 4) (sak_cp (sx_var 10) sak_nil))) (sak_cp (sx_ownK K__law_short (hr.mono (by decide)) (by rfl) (sak_cp (sx_var 2) (sak_cp (sx_var 9) sak_nil))) sak_nil))))) (sss_one (ss_ret sx_bl)) sss_nil) (sss_kill 6 false (sss_kill 7 false (sss_kill 8 false (sss_kill 9 false (sss_kill 10 false sss_nil)))))))))))))) (sss_one (ss_ret (sx_cmp (op_eqD hr.units) o2_eq (sx_var 4) (sx_var 2)))))))))))))
    (fun h => nomatch h)
theorem ok_all (T_ : Facts K mg) : Known P w K mg "law" 10 ["script"] [false] false sem_law := by
  have K_numeral := ok_numeral (P := P) (w := w) T_
  have K_value_of := ok_value_of (P := P) (w := w) T_ K_numeral
  have K_letters := ok_letters (P := P) (w := w) T_
  have K_count_of := ok_count_of (P := P) (w := w) T_
  have K_label := ok_label (P := P) (w := w) T_ K_numeral K_letters
  have K_number_of := ok_number_of (P := P) (w := w) T_ K_value_of K_count_of
  have K_labels := ok_labels (P := P) (w := w) T_ K_label
  have K_page_at := ok_page_at (P := P) (w := w) T_ K_label
  have K_places := ok_places (P := P) (w := w) T_ K_number_of
  have K_first_twice := ok_first_twice (P := P) (w := w) T_ K_labels
  have K_part_ends := ok_part_ends (P := P) (w := w) T_
  have K_told_short := ok_told_short (P := P) (w := w) T_ K_labels K_part_ends
  have K__law_mixed := ok__law_mixed (P := P) (w := w) T_
  have K__law_rest := ok__law_rest (P := P) (w := w) T_ K__law_mixed
  have K__law_pool := ok__law_pool (P := P) (w := w) T_ K__law_rest
  have K__law_next := ok__law_next (P := P) (w := w) T_ K__law_rest
  have K__law_draw := ok__law_draw (P := P) (w := w) T_ K__law_rest
  have K__law_pick := ok__law_pick (P := P) (w := w) T_ K__law_draw
  have K__law_same := ok__law_same (P := P) (w := w) T_ 8
  have K__law_parts := ok__law_parts (P := P) (w := w) T_ K__law_draw K__law_next K__law_pick
  have K__law_labels := ok__law_labels (P := P) (w := w) T_ K_numeral K_letters
  have K__law_ends := ok__law_ends (P := P) (w := w) T_
  have K__law_short := ok__law_short (P := P) (w := w) T_ K__law_labels K__law_ends
  have K_law := ok_law (P := P) (w := w) T_ K__law_pool K__law_parts K__law_labels K__law_same K__law_pick K_first_twice K__law_draw K_labels K_part_ends K__law_ends K_page_at K_places K_told_short K__law_short
  exact K_law
end
end Law
namespace Law
open Tw
theorem e__law_mixed : sem__law_mixed = LawP.sem__law_mixed := rfl
theorem e__law_rest : sem__law_rest = LawP.sem__law_rest := rfl
theorem e__law_pool : sem__law_pool = LawP.sem__law_pool := rfl
theorem e__law_next : sem__law_next = LawP.sem__law_next := rfl
theorem e__law_draw : sem__law_draw = LawP.sem__law_draw := rfl
theorem e__law_pick : sem__law_pick = LawP.sem__law_pick := rfl
theorem er__law_same : ∀ n, semR__law_same n = LawP.semR__law_same n
  | 0 => rfl
  | n + 1 => by
    show semOf 4 [] (F__law_same (semR__law_same n)) = semOf 4 [] (LawP.F__law_same (LawP.semR__law_same n))
    rw [er__law_same n]
    rfl
end Law

open PySem PySem.Spec PyProof.Rows L2 TL
namespace Law
open Tw
/-! numerals -/
def SG : List (Nat × List Nat) := [(1000, [109]), (900, [99, 109]), (500, [100]), (400, [99, 100]), (100, [99]), (90, [120, 99]), (50, [108]), (40, [120, 108]), (10, [120]), (9, [105, 120]), (5, [118]), (4, [105, 118]), (1, [105])]
def reps : Nat → List Nat → List Nat
  | 0, _ => []
  | n + 1, s => reps n s ++ s
def nums : List (Nat × List Nat) → Nat → List Nat
  | [], _ => []
  | (v, s) :: r, n => reps (n / v) s ++ nums r (n % v)
def num (n : Nat) : List Nat := nums SG n
structure Rw where
  p : Nat
  one : List Nat
  five : List Nat
  ten : List Nat
def RW : List Rw := [⟨1000, [109], [], []⟩, ⟨100, [99], [100], [109]⟩, ⟨10, [120], [108], [99]⟩, ⟨1, [105], [118], [120]⟩]
def piece (d : Nat) (r : Rw) : List Nat := if d = 9 then r.one ++ r.ten else if d > 4 then r.five ++ reps (d - 5) r.one else if d = 4 then r.one ++ r.five else reps d r.one
def lnums : List Rw → Nat → List Nat
  | [], _ => []
  | r :: l, n => piece (n / r.p) r ++ lnums l (n % r.p)
def lnum (n : Nat) : List Nat := lnums RW n
def val (c : Nat) : Nat := if c = 109 then 1000 else if c = 100 then 500 else if c = 99 then 100 else if c = 108 then 50 else if c = 120 then 10 else if c = 118 then 5 else if c = 105 then 1 else 0
def isL (c : Nat) : Bool := [109, 100, 99, 108, 120, 118, 105].contains c
def term (L : List Nat) (k : Nat) : Int := if val (L.getD (k + 1) 0) ≤ val (L.getD k 0) then val (L.getD k 0) else -(val (L.getD k 0) : Int)
def fsum (L : List Nat) : Nat → Int
  | 0 => 0
  | k + 1 => fsum L k + term L k
def vsum (L : List Nat) : Int := fsum L L.length
def chk (n : Nat) : Bool := decide (num n = lnum n ∧ (num n).length ≤ 15 ∧ (num n).all isL = true ∧ vsum (num n) = n ∧ (n = 0 ∨ num n ≠ []))
def chks (a : Nat) : Nat → Bool
  | 0 => true
  | k + 1 => chk (a + k) && chks a k
theorem chks_of {a : Nat} : ∀ {k : Nat}, chks a k = true → ∀ n, a ≤ n → n < a + k → chk n = true
  | 0, _, n, h1, h2 => by omega
  | k + 1, h, n, h1, h2 => by
    have h : (chk (a + k) && chks a k) = true := h
    rw [Bool.and_eq_true] at h
    by_cases e : n = a + k
    · rw [e]; exact h.1
    · exact chks_of h.2 n h1 (by omega)
theorem nf0 : chks 0 200 = true := by decide +kernel
theorem nf1 : chks 200 200 = true := by decide +kernel
theorem nf2 : chks 400 200 = true := by decide +kernel
theorem nf3 : chks 600 200 = true := by decide +kernel
theorem nf4 : chks 800 200 = true := by decide +kernel
theorem nf5 : chks 1000 200 = true := by decide +kernel
theorem nf6 : chks 1200 200 = true := by decide +kernel
theorem nf7 : chks 1400 200 = true := by decide +kernel
theorem nf8 : chks 1600 200 = true := by decide +kernel
theorem nf9 : chks 1800 200 = true := by decide +kernel
theorem nf10 : chks 2000 200 = true := by decide +kernel
theorem nf11 : chks 2200 200 = true := by decide +kernel
theorem nf12 : chks 2400 200 = true := by decide +kernel
theorem nf13 : chks 2600 200 = true := by decide +kernel
theorem nf14 : chks 2800 200 = true := by decide +kernel
theorem nf15 : chks 3000 200 = true := by decide +kernel
theorem nf16 : chks 3200 200 = true := by decide +kernel
theorem nf17 : chks 3400 200 = true := by decide +kernel
theorem nf18 : chks 3600 200 = true := by decide +kernel
theorem nf19 : chks 3800 200 = true := by decide +kernel
theorem num_facts {n : Nat} (h : n ≤ 3999) : chk n = true := by
  by_cases c0 : n < 200
  · exact chks_of nf0 n (by omega) (by omega)
  by_cases c1 : n < 400
  · exact chks_of nf1 n (by omega) (by omega)
  by_cases c2 : n < 600
  · exact chks_of nf2 n (by omega) (by omega)
  by_cases c3 : n < 800
  · exact chks_of nf3 n (by omega) (by omega)
  by_cases c4 : n < 1000
  · exact chks_of nf4 n (by omega) (by omega)
  by_cases c5 : n < 1200
  · exact chks_of nf5 n (by omega) (by omega)
  by_cases c6 : n < 1400
  · exact chks_of nf6 n (by omega) (by omega)
  by_cases c7 : n < 1600
  · exact chks_of nf7 n (by omega) (by omega)
  by_cases c8 : n < 1800
  · exact chks_of nf8 n (by omega) (by omega)
  by_cases c9 : n < 2000
  · exact chks_of nf9 n (by omega) (by omega)
  by_cases c10 : n < 2200
  · exact chks_of nf10 n (by omega) (by omega)
  by_cases c11 : n < 2400
  · exact chks_of nf11 n (by omega) (by omega)
  by_cases c12 : n < 2600
  · exact chks_of nf12 n (by omega) (by omega)
  by_cases c13 : n < 2800
  · exact chks_of nf13 n (by omega) (by omega)
  by_cases c14 : n < 3000
  · exact chks_of nf14 n (by omega) (by omega)
  by_cases c15 : n < 3200
  · exact chks_of nf15 n (by omega) (by omega)
  by_cases c16 : n < 3400
  · exact chks_of nf16 n (by omega) (by omega)
  by_cases c17 : n < 3600
  · exact chks_of nf17 n (by omega) (by omega)
  by_cases c18 : n < 3800
  · exact chks_of nf18 n (by omega) (by omega)
  exact chks_of nf19 n (by omega) (by omega)
theorem num_fact {n : Nat} (h : n ≤ 3999) : num n = lnum n ∧ (num n).length ≤ 15 ∧ (num n).all isL = true ∧ vsum (num n) = n ∧ (n = 0 ∨ num n ≠ []) :=
  of_decide_eq_true (num_facts h)
theorem isL_lt {c : Nat} (h : isL c = true) : c < 123 := by
  unfold isL at h
  simp at h
  omega
theorem num_ok {n : Nat} (h : n ≤ 3999) : okx (num n) := fun c hc => by
  have := isL_lt (List.all_eq_true.mp (num_fact h).2.2.1 c hc)
  omega
/-- what value_of tells -/
def vo (L : List Nat) : Option Nat := if L = [] ∨ L.all isL = false then none else if 1 ≤ vsum L ∧ vsum L ≤ 3999 ∧ num (vsum L).toNat = L then some (vsum L).toNat else none
theorem vo_num {n : Nat} (h1 : 1 ≤ n) (h2 : n ≤ 3999) : vo (num n) = some n := by
  obtain ⟨_, _, f1, f2, f3⟩ := num_fact h2
  unfold vo
  have ne : num n ≠ [] := f3.resolve_left (by omega)
  rw [if_neg (by rw [f1]; simp [ne]), f2, Int.toNat_natCast, if_pos ⟨by omega, by omega, rfl⟩]
theorem val_le (c : Nat) : val c ≤ 1000 := by unfold val; repeat' split <;> try omega
theorem term_le (L : List Nat) (k : Nat) : -1000 ≤ term L k ∧ term L k ≤ 1000 := by
  have := val_le (L.getD k 0)
  unfold term
  split <;> omega
end Law

open PySem PySem.Spec PyProof.Rows L2 TL
namespace Law
open Tw
/-! letters -/
def lt (n : Nat) : List Nat := if h : n = 0 then [] else lt ((n - 1) / 26) ++ [97 + (n - 1) % 26]
termination_by n
decreasing_by have := Nat.div_le_self (n - 1) 26; omega
def isA (c : Nat) : Bool := decide (97 ≤ c ∧ c < 123)
def co (L : List Nat) : Nat := L.foldl (fun a c => a * 26 + (c - 97) + 1) 0
theorem lt_zero : lt 0 = [] := by rw [lt]; rfl
theorem lt_pos {n : Nat} (h : 0 < n) : lt n = lt ((n - 1) / 26) ++ [97 + (n - 1) % 26] := by
  rw [lt, dif_neg (by omega)]
theorem co_snoc (L : List Nat) (c : Nat) : co (L ++ [c]) = co L * 26 + (c - 97) + 1 := by
  unfold co
  rw [List.foldl_append]
  rfl
theorem co_lt (n : Nat) : co (lt n) = n := by
  induction n using Nat.strongRecOn with
  | _ n ih =>
    by_cases h : n = 0
    · subst h; rw [lt_zero]; rfl
    · rw [lt_pos (by omega), co_snoc, ih _ (by omega)]
      omega
theorem lt_isA (n : Nat) : ∀ c ∈ lt n, isA c = true := by
  induction n using Nat.strongRecOn with
  | _ n ih =>
    by_cases h : n = 0
    · subst h; rw [lt_zero]; simp
    · rw [lt_pos (by omega)]
      intro c hc
      rcases List.mem_append.mp hc with hc | hc
      · exact ih _ (by omega) c hc
      · rw [List.mem_singleton.mp hc]
        exact decide_eq_true (by omega)
theorem lt_ne {n : Nat} (h : 0 < n) : lt n ≠ [] := by
  rw [lt_pos h]; simp
theorem lt_co (L : List Nat) (h : ∀ c ∈ L, isA c = true) : lt (co L) = L := by
  induction hn : L.length generalizing L with
  | zero =>
    rw [List.length_eq_zero_iff.mp hn]
    exact lt_zero
  | succ n ih =>
    obtain ⟨M, c, rfl⟩ : ∃ M c, L = M ++ [c] := ⟨L.dropLast, L.getLast (by intro e; rw [e] at hn; cases hn), (List.dropLast_concat_getLast _).symm⟩
    have hc := of_decide_eq_true (h c (by simp))
    have e := ih M (fun x hx => h x (List.mem_append_left _ hx)) (by simpa using hn)
    rw [co_snoc, lt_pos (by omega), show (co M * 26 + (c - 97) + 1 - 1) / 26 = co M by omega, e, show 97 + (co M * 26 + (c - 97) + 1 - 1) % 26 = c by omega]
theorem lt_len (n k : Nat) (h : n < 26 ^ k * 2) : (lt n).length ≤ k + 1 := by
  induction k generalizing n with
  | zero =>
    have : n = 0 ∨ n = 1 := by omega
    rcases this with rfl | rfl
    · rw [lt_zero]; simp
    · rw [lt_pos (by omega), show (1 - 1) / 26 = 0 from rfl, lt_zero]; simp
  | succ k ih =>
    by_cases z : n = 0
    · subst z; rw [lt_zero]; simp
    · rw [lt_pos (by omega), List.length_append]
      have := ih ((n - 1) / 26) (by rw [Nat.div_lt_iff_lt_mul (by omega)]; rw [Nat.pow_succ] at h; omega)
      simp
      omega
theorem co_le (L : List Nat) (k : Nat) (h : ∀ c ∈ L, isA c = true) (hl : L.length ≤ k) : co L + 1 ≤ 27 ^ k := by
  induction hn : L.length generalizing L k with
  | zero =>
    rw [List.length_eq_zero_iff.mp hn]
    show 0 + 1 ≤ 27 ^ k
    exact Nat.pos_of_ne_zero (by simp)
  | succ n ih =>
    obtain ⟨M, c, rfl⟩ : ∃ M c, L = M ++ [c] := ⟨L.dropLast, L.getLast (by intro e; rw [e] at hn; cases hn), (List.dropLast_concat_getLast _).symm⟩
    have hc := of_decide_eq_true (h c (by simp))
    rw [List.length_append, List.length_singleton] at hl hn
    obtain ⟨k, rfl⟩ : ∃ j, k = j + 1 := ⟨k - 1, by omega⟩
    have e := ih M k (fun x hx => h x (List.mem_append_left _ hx)) (by omega) (by omega)
    rw [co_snoc, Nat.pow_succ]
    omega
end Law

open PySem PySem.Spec PyProof.Rows L2 TL
namespace Law
open Tw LawP
theorem gAny_bl {α : Type} {xs : List α} {f : α → Bool} : gAny [.lst (xs.map fun x => T.bl (f x))] = some (.bl (xs.any f)) := by
  show (blsOf _).map _ = _
  rw [show (fun x => T.bl (f x)) = T.bl ∘ f from rfl, ← List.map_map, blsOf_map]
  show some (T.bl ((xs.map f).any id)) = _
  rw [List.any_map]
  rfl
theorem reps_comm (n : Nat) (s : List Nat) : reps (n + 1) s = s ++ reps n s := by
  induction n with
  | zero => show reps 0 s ++ s = s ++ []; simp [reps]
  | succ n ih =>
    show reps (n + 1) s ++ s = s ++ (reps n s ++ s)
    rw [ih, List.append_assoc]
theorem reps_len1 {s : List Nat} (h : s.length ≤ 1) : ∀ n, (reps n s).length ≤ n
  | 0 => Nat.le_refl _
  | n + 1 => by
    have := reps_len1 h n
    show (reps n s ++ s).length ≤ _
    rw [List.length_append]
    omega
def eS (p : Nat × List Nat) : T := .tup [.int (p.1 : Nat), tx p.2]
theorem signs_eq : c_SIGNS = .tup (SG.map eS) := rfl
theorem sg_pos : ∀ p ∈ SG, 0 < p.1 ∧ p.1 ≤ 1000 ∧ p.2.length ≤ 2 := by decide
theorem drop_cons {α : Type} {l : List α} {i : Nat} (h : i < l.length) : l.drop i = l[i] :: l.drop (i + 1) := List.drop_eq_getElem_cons h
theorem numeral_u {n : Nat} (hn : n ≤ 3999) : sem_numeral [.int (n : Nat)] = some (tx (num n), []) := by
  have h15 := (num_fact hn).2.1
  refine wc_eq ?_
  unfold sem_numeral F_numeral
  dsimp? [signs_eq, show T.str (Str.ofString "") = tx [] from rfl]
  refine wf_map (I := fun i γ => ∃ acc m, acc ++ nums (SG.drop i) m = num n ∧ m ≤ 3999 ∧ γ = [some (.int (n : Nat)), some (tx acc), some (.int (m : Nat)), none, none]) ⟨[], n, rfl, hn, rfl⟩ ?_ ?_
  · rintro i γ hi ⟨acc, m, ha, hm, rfl⟩
    obtain ⟨v0, v1, s2⟩ := sg_pos _ (List.getElem_mem hi)
    rw [drop_cons hi] at ha
    generalize SG[i] = z at ha v0 v1 s2 ⊢
    obtain ⟨v, s⟩ := z
    dsimp only at v0 v1 s2
    dsimp? [eS]
    refine ww_of (I := fun k γ => ∃ acc, k ≤ 3999 ∧ acc ++ (reps (k / v) s ++ nums (SG.drop (i + 1)) (k % v)) = num n ∧ γ = [some (.int (n : Nat)), some (tx acc), some (.int (k : Nat)), some (.int (v : Nat)), some (tx s)]) ?_ m ⟨acc, hm, ha, rfl⟩
    rintro k γ ⟨acc, hk, hc, rfl⟩
    have la : acc.length ≤ 15 := by
      have := congrArg List.length hc
      rw [List.length_append] at this
      omega
    dsimp?
    refine br_d (fun h => ?_) (fun h => ?_)
    · have h : v ≤ k := by omega
      dsimp? [tx_add (L := acc) (M := s) (by omega)]
      refine ⟨k - v, by omega, acc ++ s, by omega, ?_, ?_⟩
      · rw [← hc, Nat.mod_eq_sub_mod h, Nat.div_eq_sub_div v0 h, reps_comm, List.append_assoc, List.append_assoc]
      · rw [show ((k - v : Nat) : Int) = (k : Int) - v by omega]
    · have h : k < v := by omega
      rw [Nat.div_eq_of_lt h, Nat.mod_eq_of_lt h] at hc
      dsimp?
      exact ⟨acc, k, hc, hk, rfl⟩
  · rintro γ ⟨acc, m, ha, hm, rfl⟩
    dsimp?
    rw [← ha]
    show tx acc = tx (acc ++ [])
    rw [List.append_nil]
end Law

open PySem PySem.Spec PyProof.Rows L2 TL
namespace Law
open Tw LawP
/-! letters -/
def AZ : List Nat := (List.range 26).map (97 + ·)
theorem letters_eq : c_LETTERS = tx AZ := rfl
theorem az_at {d : Nat} (h : d < 26) : AZ.getD d 0 = 97 + d := by
  unfold AZ
  rw [List.getD_eq_getElem?_getD, List.getElem?_map, List.getElem?_range h]
  rfl
theorem az_ix {d : Nat} (h : d < 26) : gIx (tx AZ) (.int (d : Nat)) = some (tx [97 + d]) := by
  rw [tx_ix (by unfold AZ; simpa using h) (by unfold AZ; simp), az_at h]
theorem az_mem {c : Nat} : decide (c ∈ AZ) = isA c := by
  unfold AZ isA
  refine decide_eq_decide.mpr ?_
  rw [List.mem_map]
  constructor
  · rintro ⟨d, hd, rfl⟩
    have := List.mem_range.mp hd
    omega
  · intro h
    exact ⟨c - 97, List.mem_range.mpr (by omega), by omega⟩
theorem az_occ : (List.range 26).all (fun d => decide (PySem.Builtin.Str.occurrences (stx AZ) (stx [97 + d]) 0 (stx AZ).length 1 = [d])) = true := by decide +kernel
theorem az_index {c : Nat} (h : isA c = true) : gIndexX (tx AZ) (tx [c]) = some (.int ((c - 97 : Nat) : Int)) := by
  have h := of_decide_eq_true h
  have e := of_decide_eq_true (List.all_eq_true.mp az_occ (c - 97) (List.mem_range.mpr (by omega)))
  rw [show 97 + (c - 97) = c by omega] at e
  show (match PySem.Builtin.Str.occurrences (stx AZ) (stx [c]) 0 (stx AZ).length 1 with | i :: _ => some (T.int (i : Nat)) | [] => none) = _
  rw [e]
theorem dm26 {k : Nat} : gDivmod [.int (k : Nat), .int 26] = some (.tup [.int ((k / 26 : Nat) : Int), .int ((k % 26 : Nat) : Int)]) := by
  show (if (0 : Int) < 26 ∧ (26 : Int) < 1073741824 then some (T.tup [.int ((k : Int) / 26), .int ((k : Int) % 26)]) else none) = _
  rw [if_pos (by decide)]
  rfl
theorem lt_split {n k : Nat} {acc : List Nat} (h : lt k ++ acc = lt n) (hk : 0 < k) : lt ((k - 1) / 26) ++ ((97 + (k - 1) % 26) :: acc) = lt n := by
  rw [← h, lt_pos hk, List.append_assoc]
  rfl
theorem lt_acc {n k : Nat} {acc : List Nat} (h : lt k ++ acc = lt n) : acc.length ≤ (lt n).length := by
  rw [← h, List.length_append]
  omega
theorem letters_u {n : Nat} (hn : (lt n).length ≤ 100) : sem_letters [.int (n : Nat)] = some (tx (lt n), []) := by
  refine wc_eq ?_
  unfold sem_letters F_letters
  dsimp? [show T.str (Str.ofString "") = tx [] from rfl]
  refine ww_of (I := fun k γ => ∃ acc, lt k ++ acc = lt n ∧ γ = [some (.int (n : Nat)), some (tx acc), some (.int (k : Nat)), none]) ?_ n ⟨[], List.append_nil _, rfl⟩
  rintro k γ ⟨acc, hc, rfl⟩
  have la := lt_acc hc
  dsimp?
  refine br_d (fun h => ?_) (fun h => ?_)
  · have h : 0 < k := by omega
    have hs := lt_split hc h
    have dm : gDivmod [.int (((k : Nat) : Int) - 1), .int 26] = some (.tup [.int (((k - 1) / 26 : Nat) : Int), .int (((k - 1) % 26 : Nat) : Int)]) := by
      rw [show ((k : Nat) : Int) - 1 = ((k - 1 : Nat) : Int) by omega]
      exact dm26
    dsimp? [dm, letters_eq, az_ix (Nat.mod_lt (k - 1) (by decide : 0 < 26))]
    refine wo_of (tx_add (by simp; omega)) ?_
    dsimp?
    exact ⟨(k - 1) / 26, by omega, _, hs, rfl⟩
  · have h : k = 0 := by omega
    subst h
    rw [lt_zero, List.nil_append] at hc
    dsimp?
    rw [hc]
def coT (L : List Nat) : T := if L = [] ∨ L.all isA = false then .non else .int (co L : Nat)
theorem any_az (L : List Nat) : (L.any fun c => !decide (c ∈ AZ)) = !L.all isA := by
  rw [List.not_all_eq_any_not]
  congr 1
  funext c
  rw [az_mem]
theorem co_bound (L : List Nat) (h : ∀ c ∈ L, isA c = true) (hl : L.length ≤ 12) : co L < 2 ^ 60 := by
  have := co_le L 12 h hl
  have : (27 : Nat) ^ 12 < 2 ^ 60 := by decide
  omega
theorem count_u {L : List Nat} (ho : okx L) (hl : L.length ≤ 12) : sem_count_of [tx L] = some (coT L, []) := by
  refine wc_eq ?_
  unfold sem_count_of F_count_of
  dsimp? [show T.str (Str.ofString "") = tx [] from rfl, tx_eq ho (show okx [] from fun c hc => by simp at hc)]
  by_cases h0 : L = []
  · subst h0
    dsimp?
    rfl
  rw [decide_eq_false h0]
  dsimp? [↓wi_sgn, sSg_tx]
  refine wco_mapx (f := fun c => T.bl (!decide (c ∈ AZ))) (by omega) (fun c hc => ?_) ?_
  · dsimp? [letters_eq, tx_nin]
  dsimp? [gAny_bl, any_az]
  cases ha : L.all isA with
  | false =>
    dsimp?
    unfold coT
    rw [if_pos (.inr ha)]
  | true =>
    have ha' := List.all_eq_true.mp ha
    dsimp? [↓wi_sgn, sSg_tx]
    refine wf_map (I := fun i γ => γ = [some (tx L), some (.int (co (L.take i) : Nat)), none]) rfl ?_ ?_
    · rintro i γ hi rfl
      have hc := ha' _ (List.getElem_mem hi)
      have e : co (L.take (i + 1)) = co (L.take i) * 26 + (L[i] - 97) + 1 := by
        rw [List.take_add_one, List.getElem?_eq_getElem hi]
        exact co_snoc _ _
      dsimp? [letters_eq, az_index hc]
      rw [e]
      simp only [List.cons.injEq, Option.some.injEq, T.int.injEq, true_and, and_true]
      omega
    · rintro γ rfl
      rw [List.take_length]
      dsimp?
      unfold coT
      rw [if_neg (by rw [ha]; simp [h0])]
end Law

open PySem PySem.Spec PyProof.Rows L2 TL
namespace Law
open Tw
def LS : List Nat := [109, 100, 99, 108, 120, 118, 105]
def vals : T := .dct (LS.map fun c => tx [c]) (LS.map fun c => .int (val c : Nat))
section
variable {t : T} {ts : List T} {acc : List (Key × T)}
theorem dc_one {v : Int} {c : Nat} (h : (acc.any fun kv => decide (kv.1 = .inr (stx [c]))) = false) (hl : acc.length < 16777216) : dcompL [6, 4] (tgSeq 2 (tgCons (tgN 6) (tgCons (tgN 4) tgNil))) (tOf (eBin gEq (eCall gLen (aCons (eVar 4) aNil)) (eLit (.int 1)))) (eVar 4) (eVar 6) (.tup [.int v, tx [c]] :: ts) [some t, none, none, none, none, none, none] acc = dcompL [6, 4] (tgSeq 2 (tgCons (tgN 6) (tgCons (tgN 4) tgNil))) (tOf (eBin gEq (eCall gLen (aCons (eVar 4) aNil)) (eLit (.int 1)))) (eVar 4) (eVar 6) ts [some t, none, none, none, none, none, none] (acc ++ [(.inr (stx [c]), .int v)]) := by
  have e1 : tgSeq 2 (tgCons (tgN 6) (tgCons (tgN 4) tgNil)) (.tup [.int v, tx [c]]) (wipeE [some t, none, none, none, none, none, none] [6, 4]) = some [some t, none, none, none, some (tx [c]), none, some (.int v)] := by rfl
  have e2 : tOf (eBin gEq (eCall gLen (aCons (eVar 4) aNil)) (eLit (.int 1))) [some t, none, none, none, some (tx [c]), none, some (.int v)] = some (true, [some t, none, none, none, some (tx [c]), none, some (.int v)]) := by rfl
  have e3 : eVar 4 [some t, none, none, none, some (tx [c]), none, some (.int v)] = some (tx [c], [some t, none, none, none, some (tx [c]), none, some (.int v)]) := by rfl
  have e4 : eVar 6 [some t, none, none, none, some (tx [c]), none, some (.int v)] = some (.int v, [some t, none, none, none, some (tx [c]), none, some (.int v)]) := by rfl
  rw [dcompL, e1, Option.bind_some, e2, Option.bind_some, if_pos rfl, e3, Option.bind_some, e4, Option.bind_some, key_tx, Option.bind_some, if_pos ⟨h, by rw [Tw.sizeLine_eq]; exact hl⟩]
  rfl
theorem dc_two {v : Int} {c d : Nat} : dcompL [6, 4] (tgSeq 2 (tgCons (tgN 6) (tgCons (tgN 4) tgNil))) (tOf (eBin gEq (eCall gLen (aCons (eVar 4) aNil)) (eLit (.int 1)))) (eVar 4) (eVar 6) (.tup [.int v, tx [c, d]] :: ts) [some t, none, none, none, none, none, none] acc = dcompL [6, 4] (tgSeq 2 (tgCons (tgN 6) (tgCons (tgN 4) tgNil))) (tOf (eBin gEq (eCall gLen (aCons (eVar 4) aNil)) (eLit (.int 1)))) (eVar 4) (eVar 6) ts [some t, none, none, none, none, none, none] acc := by
  have e1 : tgSeq 2 (tgCons (tgN 6) (tgCons (tgN 4) tgNil)) (.tup [.int v, tx [c, d]]) (wipeE [some t, none, none, none, none, none, none] [6, 4]) = some [some t, none, none, none, some (tx [c, d]), none, some (.int v)] := by rfl
  have e2 : tOf (eBin gEq (eCall gLen (aCons (eVar 4) aNil)) (eLit (.int 1))) [some t, none, none, none, some (tx [c, d]), none, some (.int v)] = some (false, [some t, none, none, none, some (tx [c, d]), none, some (.int v)]) := by rfl
  rw [dcompL, e1, Option.bind_some, e2, Option.bind_some, if_neg Bool.false_ne_true]
  rfl
end
theorem signs_tx : c_SIGNS = .tup [.tup [.int 1000, tx [109]], .tup [.int 900, tx [99, 109]], .tup [.int 500, tx [100]], .tup [.int 400, tx [99, 100]], .tup [.int 100, tx [99]], .tup [.int 90, tx [120, 99]], .tup [.int 50, tx [108]], .tup [.int 40, tx [120, 108]], .tup [.int 10, tx [120]], .tup [.int 9, tx [105, 120]], .tup [.int 5, tx [118]], .tup [.int 4, tx [105, 118]], .tup [.int 1, tx [105]]] := rfl
theorem vals_dc (t : T) : eDComp [6, 4] (iAny (eLit c_SIGNS)) (tgSeq 2 (tgCons (tgN 6) (tgCons (tgN 4) tgNil))) (tOf (eBin gEq (eCall gLen (aCons (eVar 4) aNil)) (eLit (.int 1)))) (eVar 4) (eVar 6) [some t, none, none, none, none, none, none] = some (vals, [some t, none, none, none, none, none, none]) := by
  have e : ∀ ts γ, iAny (eLit (.tup ts)) γ = some (ts, γ) := fun _ _ => rfl
  unfold eDComp
  rw [signs_tx, e, Option.bind_some]
  dsimp only
  rw [dc_one (by decide) (by decide), dc_two, dc_one (by decide) (by decide), dc_two, dc_one (by decide) (by decide), dc_two, dc_one (by decide) (by decide), dc_two, dc_one (by decide) (by decide), dc_two, dc_one (by decide) (by decide), dc_two, dc_one (by decide) (by decide), dcompL]
  rfl
theorem isL_mem {c : Nat} : isL c = true ↔ c ∈ LS := by unfold isL LS; simp
theorem dnin_vals {c : Nat} : gDnin (tx [c]) vals = some (.bl (!isL c)) := by
  show (if (LS.map fun c => tx [c]).any (fun z => (toKey z).isSome) then (toKey (tx [c])).map fun k => T.bl (!keyIn (LS.map fun c => tx [c]) k) else none) = _
  rw [if_pos (by rfl), key_tx]
  show some (T.bl (!keyIn (LS.map fun c => tx [c]) (.inr (stx [c])))) = _
  unfold keyIn
  rw [List.any_map]
  congr 3
  rw [Bool.eq_iff_iff, List.any_eq_true, isL_mem]
  constructor
  · rintro ⟨d, hd, h⟩
    have h : toKey (tx [d]) = some (.inr (stx [c])) := of_decide_eq_true h
    rw [key_tx] at h
    have := tx_inj.mp (Option.some.inj h)
    cases this
    exact hd
  · intro h
    exact ⟨c, h, decide_eq_true (by rw [key_tx])⟩
theorem dix_vals {c : Nat} (h : isL c = true) : gDix vals (tx [c]) = some (.int (val c : Nat)) := by
  have h := isL_mem.mp h
  simp only [LS, List.mem_cons, List.not_mem_nil, or_false] at h
  rcases h with rfl | rfl | rfl | rfl | rfl | rfl | rfl <;> rfl
def voT (L : List Nat) : T := match vo L with | some n => .int (n : Nat) | none => .non
theorem fsum_le (L : List Nat) : ∀ k : Nat, -(1000 * (k : Int)) ≤ fsum L k ∧ fsum L k ≤ 1000 * (k : Int)
  | 0 => by simp [fsum]
  | k + 1 => by
    have := fsum_le L k
    have := term_le L k
    unfold fsum
    omega
theorem any_isL (L : List Nat) : (L.any fun c => !isL c) = !L.all isL := by rw [List.not_all_eq_any_not]
theorem okx_nil : okx [] := fun c hc => by simp at hc
theorem getD_mem {L : List Nat} {k : Nat} (h : k < L.length) : L.getD k 0 ∈ L := by
  rw [List.getD_eq_getElem?_getD, List.getElem?_eq_getElem h]
  exact List.getElem_mem h
theorem getD_none' {L : List Nat} {k : Nat} (h : ¬ k < L.length) : L.getD k 0 = 0 := by
  rw [List.getD_eq_getElem?_getD, List.getElem?_eq_none (by omega)]
  rfl
theorem voT_no {L : List Nat} (h : L = [] ∨ L.all isL = false) : voT L = .non := by
  unfold voT vo
  rw [if_pos h]
theorem voT_if {L : List Nat} (h0 : L ≠ []) (h : L.all isL = true) : voT L = if 1 ≤ vsum L ∧ vsum L ≤ 3999 ∧ num (vsum L).toNat = L then .int (vsum L) else .non := by
  unfold voT vo
  rw [if_neg (by rw [h]; simp [h0])]
  by_cases c : 1 ≤ vsum L ∧ vsum L ≤ 3999 ∧ num (vsum L).toNat = L
  · rw [if_pos c, if_pos c]
    show T.int ((vsum L).toNat : Int) = _
    rw [Int.toNat_of_nonneg (by omega)]
  · rw [if_neg c, if_neg c]
theorem value_u {L : List Nat} (ho : okx L) (hl : L.length ≤ 40) : sem_value_of [tx L] = some (voT L, []) := by
  refine wc_eq ?_
  unfold sem_value_of F_value_of
  dsimp?
  refine we_ofX (vals_dc _) ?_
  dsimp? [show T.str (Str.ofString "") = tx [] from rfl, tx_eq ho okx_nil]
  by_cases h0 : L = []
  · rw [voT_no (.inl h0)]
    rw [decide_eq_true h0]
    dsimp?
  rw [decide_eq_false h0]
  dsimp? [↓wi_sgn, sSg_tx]
  refine wco_mapx (f := fun c => T.bl (!isL c)) (by omega) (fun c hc => ?_) ?_
  · dsimp? [dnin_vals]
  dsimp? [gAny_bl, any_isL]
  cases ha : L.all isL with
  | false =>
    rw [voT_no (.inr ha)]
    dsimp?
  | true =>
    have ha' := List.all_eq_true.mp ha
    dsimp? [↓wi_enuX, sEx_tx]
    refine wf_map (xs := List.range L.length) (e := fun k => T.tup [.int (k : Nat), tx [L.getD k 0]]) (I := fun i γ => γ = [some (tx L), some vals, some (.int (fsum L i)), none, none, none, none]) rfl ?_ ?_
    · rintro i γ hi rfl
      have hi' : i < L.length := by rw [List.length_range] at hi; exact hi
      rw [List.getElem_range]
      have b1 := fsum_le L i
      have b2 := fsum_le L (i + 1)
      have v1 := val_le (L.getD i 0)
      have l1 : isL (L.getD i 0) = true := ha' _ (getD_mem hi')
      have e1 : gDix vals (tx [L.getD i 0]) = some (.int (val (L.getD i 0) : Nat)) := dix_vals l1
      have ei : ((i : Nat) : Int) + 1 = ((i + 1 : Nat) : Int) := by omega
      have step : fsum L (i + 1) = fsum L i + term L i := rfl
      dsimp? [ei, tx_len (show L.length ≤ 16777216 by omega)]
      refine br_d (fun h => ?_) (fun h => ?_)
      · have h : i + 1 < L.length := by omega
        have l2 : isL (L.getD (i + 1) 0) = true := ha' _ (getD_mem h)
        dsimp? [ei, tx_ix h (show L.length ≤ 16777216 by omega), dix_vals l2, e1]
        refine br_d (fun h => ?_) (fun h => ?_)
        · dsimp? [e1]
          rw [step]
          unfold term
          rw [if_pos (by omega)]
        · dsimp? [e1]
          rw [step]
          unfold term
          rw [if_neg (by omega)]
      · have h : ¬ i + 1 < L.length := by omega
        have z := getD_none' h
        dsimp? [e1]
        refine br_d (fun h => ?_) (fun h => ?_)
        · dsimp? [e1]
          rw [step]
          unfold term
          rw [if_pos (by rw [z]; show 0 ≤ _; omega)]
        · omega
    · rintro γ rfl
      rw [List.length_range, voT_if h0 ha]
      have e : fsum L L.length = vsum L := rfl
      rw [e]
      dsimp? [↓we_chain]
      refine br_d (fun h1 => ?_) (fun h1 => ?_)
      · dsimp?
        refine br_d (fun h2 => ?_) (fun h2 => ?_)
        · obtain ⟨n, hn⟩ := Int.eq_ofNat_of_zero_le (show 0 ≤ vsum L by omega)
          rw [hn] at h1 h2 ⊢
          dsimp? [numeral_u (show n ≤ 3999 by omega), tx_eq (num_ok (show n ≤ 3999 by omega)) ho]
          rw [Int.toNat_natCast]
          refine br_d (fun h3 => ?_) (fun h3 => ?_)
          · rw [if_pos ⟨h1, h2, h3⟩]
            dsimp?
          · rw [if_neg (fun q => h3 q.2.2)]
            dsimp?
        · rw [if_neg (fun q => h2 q.2.1)]
          dsimp?
      · rw [if_neg (fun q => h1 q.1)]
        dsimp?
end Law

open PySem PySem.Spec PyProof.Rows L2 TL
namespace Law
open Tw LawP
/-! kinds -/
def ROM : List Nat := [114, 111, 109, 97, 110]
def PLA : List Nat := [112, 108, 97, 105, 110]
def LET : List Nat := [108, 101, 116, 116, 101, 114]
theorem okR : okx ROM := by unfold okx ROM; decide
theorem okP : okx PLA := by unfold okx PLA; decide
theorem okL : okx LET := by unfold okx LET; decide
theorem kRR : gEq (tx ROM) (tx ROM) = some (.bl true) := by rw [tx_eq okR okR]; rfl
theorem kPR : gEq (tx PLA) (tx ROM) = some (.bl false) := by rw [tx_eq okP okR]; rfl
theorem kLR : gEq (tx LET) (tx ROM) = some (.bl false) := by rw [tx_eq okL okR]; rfl
theorem kPP : gEq (tx PLA) (tx PLA) = some (.bl true) := by rw [tx_eq okP okP]; rfl
theorem kLP : gEq (tx LET) (tx PLA) = some (.bl false) := by rw [tx_eq okL okP]; rfl
theorem kPL : gEq (tx PLA) (tx LET) = some (.bl false) := by rw [tx_eq okP okL]; rfl
theorem kLL : gEq (tx LET) (tx LET) = some (.bl true) := by rw [tx_eq okL okL]; rfl
theorem sR : T.str (Str.ofString "roman") = tx ROM := rfl
theorem sP : T.str (Str.ofString "plain") = tx PLA := rfl
theorem sLt : T.str (Str.ofString "letter") = tx LET := rfl
theorem label_r {n : Nat} (hn : n ≤ 3999) : sem_label [tx ROM, .int (n : Nat)] = some (tx (num n), []) := by
  refine wc_eq ?_
  unfold sem_label F_label
  dsimp? [sR, sP, kRR, numeral_u hn]
theorem label_p {n : Nat} (hn : n < 2 ^ 60) : sem_label [tx PLA, .int (n : Nat)] = some (tx (numL n), []) := by
  refine wc_eq ?_
  unfold sem_label F_label
  dsimp? [sR, sP, kPR, kPP, str_x hn]
  rfl
theorem label_l {n : Nat} (hn : (lt n).length ≤ 100) : sem_label [tx LET, .int (n : Nat)] = some (tx (lt n), []) := by
  refine wc_eq ?_
  unfold sem_label F_label
  dsimp? [sR, sP, kLR, kLP, letters_u hn]
theorem number_r {L : List Nat} (ho : okx L) (hl : L.length ≤ 40) : sem_number_of [tx ROM, tx L] = some (voT L, []) := by
  refine wc_eq ?_
  unfold sem_number_of F_number_of
  dsimp? [sR, kRR, value_u ho hl]
theorem number_l {L : List Nat} (ho : okx L) (hl : L.length ≤ 12) : sem_number_of [tx LET, tx L] = some (coT L, []) := by
  refine wc_eq ?_
  unfold sem_number_of F_number_of
  dsimp? [sR, sLt, kLR, kLL, count_u ho hl]
def DG : List Nat := [48, 49, 50, 51, 52, 53, 54, 55, 56, 57]
theorem sDG : T.str (Str.ofString "0123456789") = tx DG := rfl
theorem numL_dg (n : Nat) : (numL n).any (fun c => !decide (c ∈ DG)) = false := by
  rw [List.any_eq_false]
  intro c hc
  have h := numL_digits n c hc
  have : c ∈ DG := by
    have : c = 48 ∨ c = 49 ∨ c = 50 ∨ c = 51 ∨ c = 52 ∨ c = 53 ∨ c = 54 ∨ c = 55 ∨ c = 56 ∨ c = 57 := by omega
    simp only [DG, List.mem_cons]
    omega
  simp [this]
theorem numL_head : ∀ (n : Nat), 0 < n → (numL n).getD 0 0 ≠ 48 := by
  intro n
  induction n using Nat.strongRecOn with
  | ind n ih =>
    intro h
    by_cases c : n < 10
    · rw [numL_lt c]
      show 48 + n ≠ 48
      omega
    · rw [numL_step (by omega)]
      have h2 := ih (n / 10) (by omega) (by omega)
      have ne := numL_ne (n / 10)
      generalize numL (n / 10) = M at h2 ne ⊢
      cases M with
      | nil => exact absurd rfl ne
      | cons a M => exact h2
theorem plain_no {L : List Nat} (ho : okx L) (hl : L.length ≤ 40) (h : L = [] ∨ L.any (fun c => !decide (c ∈ DG)) = true ∨ L.getD 0 0 = 48) : sem_number_of [tx PLA, tx L] = some (.non, []) := by
  refine wc_eq ?_
  unfold sem_number_of F_number_of
  dsimp? [sR, sLt, sDG, kPR, kPL, show T.str (Str.ofString "") = tx [] from rfl, show T.str (Str.ofString "0") = tx [48] from rfl, tx_eq ho okx_nil]
  by_cases h0 : L = []
  · rw [decide_eq_true h0]
    dsimp?
  rw [decide_eq_false h0]
  dsimp? [↓wi_sgn, sSg_tx]
  refine wco_mapx (f := fun c => T.bl (!decide (c ∈ DG))) (by omega) (fun c hc => ?_) ?_
  · dsimp? [sDG, tx_nin]
  dsimp? [gAny_bl]
  cases ha : L.any (fun c => !decide (c ∈ DG)) with
  | true => dsimp?
  | false =>
    have hp := List.length_pos_iff.mpr h0
    have h48 : L.getD 0 0 = 48 := by
      rcases h with h | h | h
      · exact absurd h h0
      · rw [ha] at h; cases h
      · exact h
    have ix : gIx (tx L) (.int 0) = some (tx [48]) := by
      have := tx_ix (L := L) (k := 0) hp (by omega)
      rw [h48] at this
      exact this
    have eq : gEq (tx [48]) (tx [48]) = some (.bl true) := by
      rw [tx_eq (by unfold okx; decide) (by unfold okx; decide)]
      rfl
    dsimp? [ix, show T.str (Str.ofString "0") = tx [48] from rfl, eq]
theorem plain_u {n : Nat} (h1 : 0 < n) (h2 : n < 10 ^ 9) : sem_number_of [tx PLA, tx (numL n)] = some (.int (n : Nat), []) := by
  have hl := numL_len (n := n) (k := 9) (by decide) h2
  have ho := okx_num n
  have h0 := numL_ne n
  have hd := numL_dg n
  have hh := numL_head n h1
  have hi : gIntS [tx (numL n)] = some (.int (n : Nat)) := by
    have e := int_num (n := n) (by omega)
    rw [stx_num] at e
    show (if (stx (numL n)).length ≤ 640 then (intText? (stx (numL n))).map T.int else none) = _
    rw [if_pos (by rw [stx_len]; omega), e]
    rfl
  generalize numL n = L at hl ho h0 hd hh hi ⊢
  refine wc_eq ?_
  unfold sem_number_of F_number_of
  dsimp? [sR, sLt, sDG, kPR, kPL, show T.str (Str.ofString "") = tx [] from rfl, show T.str (Str.ofString "0") = tx [48] from rfl, tx_eq ho okx_nil]
  rw [decide_eq_false h0]
  dsimp? [↓wi_sgn, sSg_tx]
  refine wco_mapx (f := fun c => T.bl (!decide (c ∈ DG))) (by omega) (fun c hc => ?_) ?_
  · dsimp? [sDG, tx_nin]
  have hp := List.length_pos_iff.mpr h0
  have ix : gIx (tx L) (.int 0) = some (tx [L.getD 0 0]) := tx_ix (L := L) (k := 0) hp (by omega)
  have hc := ho _ (getD_mem hp)
  have eq : gEq (tx [L.getD 0 0]) (tx [48]) = some (.bl false) := by
    rw [tx_eq (by intro c hc'; rw [List.mem_singleton.mp hc']; exact hc) (by unfold okx; decide), decide_eq_false (by intro z; exact hh (by simpa using z))]
  dsimp? [gAny_bl, hd, ix, show T.str (Str.ofString "0") = tx [48] from rfl, eq, tx_len (show L.length ≤ 16777216 by omega)]
  refine br_d (fun h => ?_) (fun h => ?_)
  · dsimp? [hi]
  · omega
end Law

open PySem PySem.Spec PyProof.Rows L2 TL
namespace Law
open Tw LawP
/-! parts -/
structure Pt where
  pre : List Nat
  kd : List Nat
  fst : Nat
  pgs : Nat
def eP (q : Pt) : T := .tup [tx q.pre, tx q.kd, .int (q.fst : Nat), .int (q.pgs : Nat)]
structure Okp (q : Pt) : Prop where
  pre : q.pre = [] ∨ q.pre = [97, 45] ∨ q.pre = [120]
  kd : q.kd = ROM ∨ q.kd = PLA ∨ q.kd = LET
  f1 : 1 ≤ q.fst
  f2 : q.fst ≤ 40
  pg : q.pgs ≤ 30
def lab (k : List Nat) (n : Nat) : List Nat := if k = ROM then num n else if k = PLA then numL n else lt n
theorem lab_r (n : Nat) : lab ROM n = num n := if_pos rfl
theorem lab_p (n : Nat) : lab PLA n = numL n := by unfold lab; rw [if_neg (by decide), if_pos rfl]
theorem lab_l (n : Nat) : lab LET n = lt n := by unfold lab; rw [if_neg (by decide), if_neg (by decide)]
theorem num_short : (List.range 71).all (fun n => decide ((num n).length ≤ 7)) = true := by decide +kernel
theorem lt_okx (n : Nat) : okx (lt n) := fun c hc => by
  have := of_decide_eq_true (lt_isA n c hc)
  omega
theorem lab_ok {q : Pt} (h : Okp q) {n : Nat} (hn : n ≤ 70) : okx (lab q.kd n) ∧ (lab q.kd n).length ≤ 7 := by
  rcases h.kd with e | e | e <;> rw [e]
  · rw [lab_r]
    exact ⟨num_ok (by omega), of_decide_eq_true (List.all_eq_true.mp num_short n (List.mem_range.mpr (by omega)))⟩
  · rw [lab_p]
    exact ⟨okx_num n, Nat.le_trans (numL_len (k := 2) (by decide) (by omega)) (by decide)⟩
  · rw [lab_l]
    exact ⟨lt_okx n, Nat.le_trans (lt_len n 2 (by omega)) (by decide)⟩
theorem pre_ok {q : Pt} (h : Okp q) : okx q.pre ∧ q.pre.length ≤ 2 := by
  rcases h.pre with e | e | e <;> rw [e] <;> exact ⟨by unfold okx; decide, by decide⟩
theorem label_any {q : Pt} (h : Okp q) {n : Nat} (hn : n ≤ 70) : sem_label [tx q.kd, .int (n : Nat)] = some (tx (lab q.kd n), []) := by
  rcases h.kd with e | e | e <;> rw [e]
  · rw [lab_r]; exact label_r (by omega)
  · rw [lab_p]; exact label_p (by omega)
  · rw [lab_l]; exact label_l (Nat.le_trans (lt_len n 2 (by omega)) (by decide))
def lb (q : Pt) (i : Nat) : List Nat := q.pre ++ lab q.kd (q.fst + i)
def row (q : Pt) : List (List Nat) := (List.range q.pgs).map (lb q)
def labs (ps : List Pt) : List (List Nat) := ps.flatMap row
theorem row_len (q : Pt) : (row q).length = q.pgs := by simp [row]
theorem labs_len : ∀ {ps : List Pt}, (∀ q ∈ ps, Okp q) → (labs ps).length ≤ 30 * ps.length
  | [], _ => Nat.le_refl _
  | q :: ps, h => by
    have h1 := labs_len fun r hr => h r (List.mem_cons_of_mem _ hr)
    have h2 := (h q (List.mem_cons_self ..)).pg
    unfold labs at h1 ⊢
    rw [List.flatMap_cons, List.length_append, row_len, List.length_cons]
    omega
theorem labs_take {ps : List Pt} {i : Nat} (hi : i < ps.length) : labs (ps.take (i + 1)) = labs (ps.take i) ++ row ps[i] := by
  unfold labs
  rw [List.take_add_one, List.getElem?_eq_getElem hi, List.flatMap_append]
  simp
theorem lb_ok {q : Pt} (h : Okp q) {i : Nat} (hi : i < q.pgs) : okx (lb q i) ∧ (lb q i).length ≤ 9 := by
  have f1 := h.f2
  have f2 := h.pg
  obtain ⟨a1, a2⟩ := lab_ok h (n := q.fst + i) (by omega)
  obtain ⟨b1, b2⟩ := pre_ok h
  exact ⟨okx_app b1 a1, by unfold lb; rw [List.length_append]; omega⟩
theorem labs_ok {ps : List Pt} (h : ∀ q ∈ ps, Okp q) : ∀ M ∈ labs ps, okx M ∧ M.length ≤ 9 := by
  intro M hM
  unfold labs at hM
  obtain ⟨q, hq, hM⟩ := List.mem_flatMap.mp hM
  obtain ⟨i, hi, rfl⟩ := List.mem_map.mp hM
  exact lb_ok (h q hq) (List.mem_range.mp hi)
theorem ext_tx {a b : List (List Nat)} (h : a.length + b.length ≤ 16777216) : gExt (.lst (a.map tx)) [.lst (b.map tx)] = some (.non, .lst ((a ++ b).map tx)) := by
  show (if (a.map tx).length + (b.map tx).length ≤ sizeLine then some (T.non, T.lst (a.map tx ++ b.map tx)) else none) = _
  rw [if_pos (by rw [List.length_map, List.length_map, Tw.sizeLine_eq]; exact h), List.map_append]
/-! a label at a place -/
def pa : Int → List Pt → T
  | _, [] => .non
  | a, q :: r => if 0 ≤ a ∧ a < (q.pgs : Nat) then tx (lb q a.toNat) else pa (a - (q.pgs : Nat)) r
theorem getD_row {q : Pt} {k : Nat} (h : k < q.pgs) : (row q).getD k [] = lb q k := by
  unfold row
  rw [List.getD_eq_getElem?_getD, List.getElem?_map, List.getElem?_range h]
  rfl
theorem pa_eq : ∀ (ps : List Pt) (a : Int), pa a ps = if 0 ≤ a ∧ a < ((labs ps).length : Nat) then tx ((labs ps).getD a.toNat []) else .non
  | [], a => by
    show T.non = _
    rw [if_neg]
    show ¬ (0 ≤ a ∧ a < ((0 : Nat) : Int))
    omega
  | q :: r, a => by
    have ih := pa_eq r (a - (q.pgs : Nat))
    have e : labs (q :: r) = row q ++ labs r := by unfold labs; rw [List.flatMap_cons]
    show (if 0 ≤ a ∧ a < (q.pgs : Nat) then tx (lb q a.toNat) else pa (a - (q.pgs : Nat)) r) = _
    rw [e, List.length_append, row_len]
    by_cases c : 0 ≤ a ∧ a < (q.pgs : Nat)
    · rw [if_pos c, if_pos (by omega), List.getD_eq_getElem?_getD, List.getElem?_append_left (by rw [row_len]; omega), ← List.getD_eq_getElem?_getD, getD_row (by omega)]
    · rw [if_neg c, ih]
      by_cases d : 0 ≤ a ∧ a < ((q.pgs + (labs r).length : Nat) : Int)
      · rw [if_pos d, if_pos (by omega), List.getD_eq_getElem?_getD, List.getD_eq_getElem?_getD, List.getElem?_append_right (by rw [row_len]; omega), row_len, show (a - (q.pgs : Nat)).toNat = a.toNat - q.pgs by omega]
      · rw [if_neg d, if_neg (by omega)]
/-! ends of parts -/
def enR : Nat → List Pt → List Int
  | _, [] => []
  | b, q :: r => (if 0 < q.pgs then [((b + q.pgs : Nat) : Int) - 1] else []) ++ enR (b + q.pgs) r
def ens (ps : List Pt) : List Int := enR 0 ps
theorem enR_len : ∀ (ps : List Pt) (b : Nat), (enR b ps).length ≤ ps.length
  | [], _ => Nat.le_refl _
  | q :: r, b => by
    have := enR_len r (b + q.pgs)
    unfold enR
    rw [List.length_append, List.length_cons]
    split <;> simp <;> omega
theorem drop_cons' {α : Type} {l : List α} {i : Nat} (h : i < l.length) : l.drop i = l[i] :: l.drop (i + 1) := List.drop_eq_getElem_cons h
section
variable {ps : List Pt} (h : ∀ q ∈ ps, Okp q) (hl : ps.length ≤ 6)
include h hl
theorem labels_u : sem_labels [.lst (ps.map eP)] = some (.lst ((labs ps).map tx), []) := by
  refine wc_eq ?_
  unfold sem_labels F_labels
  dsimp?
  refine wf_map (xs := ps) (e := eP) (I := fun i γ => γ = [some (.lst (ps.map eP)), some (.lst ((labs (ps.take i)).map tx)), none, none, none, none, none]) rfl ?_ ?_
  · rintro i γ hi rfl
    have ok := h _ (List.getElem_mem hi)
    have e := labs_take hi
    have ll := labs_len (ps := ps.take i) fun q hq => h q (List.mem_of_mem_take hq)
    rw [List.length_take] at ll
    generalize ps[i] = q at ok e ⊢
    have f1 := ok.f1
    have f2 := ok.f2
    have f3 := ok.pg
    dsimp? [eP]
    refine sd_i (by omega) ?_
    dsimp?
    rw [show ((q.fst : Int) + (q.pgs : Nat) - (q.fst : Nat)).toNat = q.pgs by omega]
    refine wco_rng (f := fun j => tx (lb q j)) (by omega) (fun j hj => ?_) ?_
    · have e1 : (q.fst : Int) + (j : Nat) = ((q.fst + j : Nat) : Int) := by omega
      obtain ⟨a1, a2⟩ := lab_ok ok (n := q.fst + j) (by omega)
      obtain ⟨b1, b2⟩ := pre_ok ok
      dsimp? [e1, label_any ok (n := q.fst + j) (by omega)]
      refine wo_of (tx_add (by omega)) ?_
      dsimp?
      rfl
    dsimp? [ext_tx (a := labs (ps.take i)) (b := row q) (by rw [row_len]; omega), show List.map (fun j => tx (lb q j)) (List.range q.pgs) = (row q).map tx from by unfold row; rw [List.map_map]; rfl]
    rw [e]
  · rintro γ rfl
    rw [List.take_length]
    dsimp?
theorem page_at_u {a : Int} (ha : -1000 ≤ a ∧ a ≤ 1000) : sem_page_at [.lst (ps.map eP), .int a] = some (pa a ps, []) := by
  refine wc_eq ?_
  unfold sem_page_at F_page_at
  dsimp?
  refine wf_map (xs := ps) (e := eP) (I := fun i γ => ∃ b : Int, pa b (ps.drop i) = pa a ps ∧ -1000 - 30 * (i : Int) ≤ b ∧ b ≤ 1000 ∧ γ = [some (.lst (ps.map eP)), some (.int a), some (.int b), none, none, none, none]) ⟨a, rfl, by omega, by omega, rfl⟩ ?_ ?_
  · rintro i γ hi ⟨b, hb, hb1, hb2, rfl⟩
    have ok := h _ (List.getElem_mem hi)
    rw [drop_cons' hi] at hb
    generalize ps[i] = q at ok hb ⊢
    have f1 := ok.f1
    have f2 := ok.f2
    have f3 := ok.pg
    have hb : (if 0 ≤ b ∧ b < (q.pgs : Nat) then tx (lb q b.toNat) else pa (b - (q.pgs : Nat)) (ps.drop (i + 1))) = pa a ps := hb
    dsimp? [eP, ↓we_chain]
    refine br_d (fun h1 => ?_) (fun h1 => ?_)
    · dsimp?
      refine br_d (fun h2 => ?_) (fun h2 => ?_)
      · rw [if_pos ⟨h1, h2⟩] at hb
        have e1 : (q.fst : Int) + b = ((q.fst + b.toNat : Nat) : Int) := by omega
        obtain ⟨a1, a2⟩ := lab_ok ok (n := q.fst + b.toNat) (by omega)
        obtain ⟨b1, b2⟩ := pre_ok ok
        dsimp? [e1, label_any ok (n := q.fst + b.toNat) (by omega)]
        refine wo_of (tx_add (by omega)) ?_
        dsimp?
        exact hb
      · rw [if_neg (fun z => h2 z.2)] at hb
        dsimp?
        exact ⟨_, hb, by omega, by omega, rfl⟩
    · rw [if_neg (fun z => h1 z.1)] at hb
      dsimp?
      exact ⟨_, hb, by omega, by omega, rfl⟩
  · rintro γ ⟨b, hb, _, _, rfl⟩
    rw [List.drop_length] at hb
    dsimp?
    exact hb
theorem part_ends_u : sem_part_ends [.lst (ps.map eP)] = some (.lst ((ens ps).map T.int), []) := by
  refine wc_eq ?_
  unfold sem_part_ends F_part_ends
  dsimp?
  refine wf_map (xs := ps) (e := eP) (I := fun i γ => ∃ (b : Nat) (L : List Int), L ++ enR b (ps.drop i) = ens ps ∧ γ = [some (.lst (ps.map eP)), some (.lst (L.map T.int)), some (.int (b : Nat)), none, none]) ⟨0, [], rfl, rfl⟩ ?_ ?_
  · rintro i γ hi ⟨b, L, hb, rfl⟩
    have ok := h _ (List.getElem_mem hi)
    have lL : L.length ≤ 6 := by
      have h1 := congrArg List.length hb
      have h2 := enR_len ps 0
      rw [List.length_append] at h1
      unfold ens at h1
      omega
    rw [drop_cons' hi] at hb
    generalize ps[i] = q at ok hb ⊢
    have hb : L ++ ((if 0 < q.pgs then [((b + q.pgs : Nat) : Int) - 1] else []) ++ enR (b + q.pgs) (ps.drop (i + 1))) = ens ps := hb
    have e1 : (b : Int) + (q.pgs : Nat) = ((b + q.pgs : Nat) : Int) := by omega
    dsimp? [eP, e1]
    refine br_d (fun h1 => ?_) (fun h1 => ?_)
    · rw [if_pos (by omega), ← List.append_assoc] at hb
      dsimp?
      refine sd_i (by rw [List.length_map]; omega) ?_
      dsimp?
      exact ⟨_, _, hb, by rw [List.map_append]; rfl⟩
    · rw [if_neg (by omega), List.nil_append] at hb
      dsimp?
      exact ⟨_, _, hb, rfl⟩
  · rintro γ ⟨b, L, hb, rfl⟩
    rw [List.drop_length] at hb
    have hb : L ++ [] = ens ps := hb
    rw [List.append_nil] at hb
    rw [hb]
    dsimp?
end
end Law

open PySem PySem.Spec PyProof.Rows L2 TL
namespace Law
open Tw LawP
/-! first_twice -/
def tw : List (List Nat) → List (List Nat) → List (List Nat)
  | _, [] => []
  | S, x :: r => (if x ∈ S then [x] else []) ++ tw (S ++ [x]) r
def ftT (L : List (List Nat)) : T := match tw [] L with | [] => .non | x :: _ => tx x
theorem keyIn_tx {S : List (List Nat)} {x : List Nat} : keyIn (S.map tx) (.inr (stx x)) = decide (x ∈ S) := by
  unfold keyIn
  rw [List.any_map, Bool.eq_iff_iff, List.any_eq_true, decide_eq_true_eq]
  constructor
  · rintro ⟨d, hd, h⟩
    have h : toKey (tx d) = some (.inr (stx x)) := of_decide_eq_true h
    rw [key_tx] at h
    have := tx_inj.mp (Option.some.inj h)
    rw [← this]
    exact hd
  · intro h
    exact ⟨x, h, decide_eq_true key_tx⟩
theorem all_key (S : List (List Nat)) : (S.map tx).all (fun z => (toKey z).isSome) = true := by
  rw [List.all_eq_true]
  intro t ht
  obtain ⟨x, _, rfl⟩ := List.mem_map.mp ht
  rfl
theorem din_tx {S : List (List Nat)} {vs : List T} {x : List Nat} : gDinE (tx x) (.dct (S.map tx) vs) = some (.bl (decide (x ∈ S))) := by
  show (if (S.map tx).all (fun z => (toKey z).isSome) = true then (toKey (tx x)).map fun k => T.bl (keyIn (S.map tx) k) else none) = _
  rw [if_pos (all_key S), key_tx]
  show some (T.bl (keyIn (S.map tx) (.inr (stx x)))) = _
  rw [keyIn_tx]
theorem put_tx {S : List (List Nat)} {vs : List T} {x : List Nat} {v : T} (h : x ∉ S) (hl : S.length < 16777216) : gPutD (.dct (S.map tx) vs) (tx x) v = some (.dct ((S ++ [x]).map tx) (vs ++ [v])) := by
  show (if (S.map tx).length < sizeLine ∧ (S.map tx).all (fun z => (toKey z).isSome) = true then (toKey (tx x)).map fun k => putT (S.map tx) vs (tx x) v (isKK k) else none) = _
  rw [if_pos ⟨by rw [List.length_map, Tw.sizeLine_eq]; exact hl, all_key S⟩, key_tx]
  show some (putT (S.map tx) vs (tx x) v (isKK (.inr (stx x)))) = _
  unfold putT
  have e : (S.map tx).any (isKK (.inr (stx x))) = decide (x ∈ S) := keyIn_tx
  rw [e, decide_eq_false h, if_neg Bool.false_ne_true, List.map_append]
  rfl
theorem ws_setD {i : Nat} {f1 f2 : Ex} {γ : En} {Q : KQ} {v k d d' : T} {γ1 γ2 : En} (e1 : f1 γ = some (v, γ1)) (g1 : γ1[i]? = some (some d)) (e2 : f2 γ1 = some (k, γ2)) (g2 : γ2[i]? = some (some d)) (hp : gPutD d k v = some d') (h : Q.ap (.nx (γ2.set i (some d')))) :
    @WS (sSetD i f1 f2) γ Q := by
  refine ⟨_, ?_, h⟩
  unfold sSetD
  rw [e1, Option.bind_some]
  dsimp only
  rw [g1]
  dsimp only
  rw [e2, Option.bind_some]
  dsimp only
  rw [g2]
  dsimp only
  rw [hp]
  rfl
section
variable {ps : List Pt} (h : ∀ q ∈ ps, Okp q) (hl : ps.length ≤ 6)
include h hl
theorem first_twice_u : sem_first_twice [.lst (ps.map eP)] = some (ftT (labs ps), []) := by
  have hn := labs_len h
  refine wc_eq ?_
  unfold sem_first_twice F_first_twice
  dsimp?
  refine we_ofX (γ' := [some (.lst (ps.map eP)), none, none]) (t := .dct [] []) rfl ?_
  dsimp? [labels_u h hl]
  refine wf_map (xs := labs ps) (e := tx) (I := fun i γ => ∃ vs, tw ((labs ps).take i) ((labs ps).drop i) = tw [] (labs ps) ∧ γ = [some (.lst (ps.map eP)), some (.dct (((labs ps).take i).map tx) vs), none]) ⟨[], rfl, rfl⟩ ?_ ?_
  · rintro i γ hi ⟨vs, ht, rfl⟩
    rw [drop_cons' hi] at ht
    have et : (labs ps).take (i + 1) = (labs ps).take i ++ [(labs ps)[i]] := by rw [List.take_add_one, List.getElem?_eq_getElem hi]; rfl
    have lt' : ((labs ps).take i).length < 16777216 := by rw [List.length_take]; omega
    generalize hx : (labs ps)[i] = x at ht et ⊢
    have ht : (if x ∈ (labs ps).take i then [x] else []) ++ tw ((labs ps).take i ++ [x]) ((labs ps).drop (i + 1)) = tw [] (labs ps) := ht
    dsimp? [din_tx]
    by_cases c : x ∈ (labs ps).take i
    · rw [if_pos c] at ht
      rw [decide_eq_true c]
      dsimp?
      unfold ftT
      rw [← ht]
      rfl
    · rw [if_neg c, List.nil_append] at ht
      rw [decide_eq_false c]
      dsimp?
      refine ws_setD (i := 1) rfl rfl rfl rfl (put_tx c lt') ?_
      dsimp?
      refine ⟨_, ?_, by rw [et]⟩
      rw [et]
      exact ht
  · rintro γ ⟨vs, ht, rfl⟩
    rw [List.drop_length] at ht
    dsimp?
    unfold ftT
    rw [← ht]
    rfl
end
/-! numbers of texts -/
def dv (L : List Nat) : Nat := L.foldl (fun a c => a * 10 + (c - 48)) 0
theorem dv_snoc (M : List Nat) (c : Nat) : dv (M ++ [c]) = dv M * 10 + (c - 48) := by
  unfold dv
  rw [List.foldl_append]
  rfl
structure OkD (L : List Nat) : Prop where
  ne : L ≠ []
  dg : ∀ c ∈ L, 48 ≤ c ∧ c ≤ 57
  hd : L.getD 0 0 ≠ 48
theorem numL_dv : ∀ (n : Nat) (L : List Nat), L.length = n → OkD L → numL (dv L) = L ∧ 1 ≤ dv L
  | 0, L, hn, h => absurd (List.length_eq_zero_iff.mp hn) h.ne
  | n + 1, L, hn, h => by
    rcases List.eq_nil_or_concat L with e | ⟨M, c, e⟩
    · exact absurd e h.ne
    · rw [List.concat_eq_append] at e
      subst e
      have hc := h.dg c (by simp)
      rw [List.length_append, List.length_singleton] at hn
      rw [dv_snoc]
      cases M with
      | nil =>
        have h48 : c ≠ 48 := h.hd
        have e0 : dv [] * 10 + (c - 48) = c - 48 := by
          have : dv [] = 0 := rfl
          omega
        rw [e0, numL_lt (by omega), show 48 + (c - 48) = c by omega]
        exact ⟨rfl, by omega⟩
      | cons a M =>
        obtain ⟨i1, i2⟩ := numL_dv n (a :: M) (by omega) ⟨by simp, fun c hc => h.dg c (List.mem_append_left _ hc), h.hd⟩
        generalize dv (a :: M) = d at i1 i2 ⊢
        refine ⟨?_, by omega⟩
        rw [numL_step (by omega), show (d * 10 + (c - 48)) / 10 = d by omega, show (d * 10 + (c - 48)) % 10 = c - 48 by omega, i1, show 48 + (c - 48) = c by omega]
def okD (L : List Nat) : Bool := !(decide (L = []) || L.any (fun c => !decide (c ∈ DG)) || decide (L.getD 0 0 = 48))
theorem mem_DG {c : Nat} : c ∈ DG ↔ 48 ≤ c ∧ c ≤ 57 := by
  simp only [DG, List.mem_cons, List.not_mem_nil, or_false]
  omega
theorem okD_of {L : List Nat} (h : okD L = true) : OkD L := by
  unfold okD at h
  simp only [Bool.not_eq_true', Bool.or_eq_false_iff, decide_eq_false_iff_not] at h
  refine ⟨h.1.1, fun c hc => ?_, h.2⟩
  have := List.any_eq_false.mp h.1.2 c hc
  rw [← mem_DG]
  simpa using this
theorem okD_no {L : List Nat} (h : okD L = false) : L = [] ∨ L.any (fun c => !decide (c ∈ DG)) = true ∨ L.getD 0 0 = 48 := by
  unfold okD at h
  simp only [Bool.not_eq_false', Bool.or_eq_true, decide_eq_true_eq] at h
  rcases h with (h | h) | h
  · exact .inl h
  · exact .inr (.inl h)
  · exact .inr (.inr h)
def vpT (L : List Nat) : T := if okD L = true ∧ L.length < 10 then .int (dv L : Nat) else .non
theorem plain_any {L : List Nat} (ho : okx L) (hl : L.length ≤ 40) : sem_number_of [tx PLA, tx L] = some (vpT L, []) := by
  cases hd : okD L with
  | false =>
    have : vpT L = .non := by unfold vpT; rw [if_neg (by rw [hd]; simp)]
    rw [this]
    exact plain_no ho hl (okD_no hd)
  | true =>
    have O := okD_of hd
    obtain ⟨e, _⟩ := numL_dv L.length L rfl O
    have hi : gIntS [tx L] = some (.int (dv L : Nat)) := by
      have e2 := int_num (n := dv L) (by rw [e]; omega)
      rw [stx_num, e] at e2
      show (if (stx L).length ≤ 640 then (intText? (stx L)).map T.int else none) = _
      rw [if_pos (by rw [stx_len]; omega), e2]
      rfl
    have hany : L.any (fun c => !decide (c ∈ DG)) = false := by
      rw [List.any_eq_false]
      intro c hc
      simp [mem_DG.mpr (O.dg c hc)]
    have h0 := O.ne
    have hh := O.hd
    refine wc_eq ?_
    unfold sem_number_of F_number_of
    dsimp? [sR, sLt, sDG, kPR, kPL, show T.str (Str.ofString "") = tx [] from rfl, show T.str (Str.ofString "0") = tx [48] from rfl, tx_eq ho okx_nil]
    rw [decide_eq_false h0]
    dsimp? [↓wi_sgn, sSg_tx]
    refine wco_mapx (f := fun c => T.bl (!decide (c ∈ DG))) (by omega) (fun c hc => ?_) ?_
    · dsimp? [sDG, tx_nin]
    have hp := List.length_pos_iff.mpr h0
    have ix : gIx (tx L) (.int 0) = some (tx [L.getD 0 0]) := tx_ix (L := L) (k := 0) hp (by omega)
    have hc := ho _ (getD_mem hp)
    have eq : gEq (tx [L.getD 0 0]) (tx [48]) = some (.bl false) := by
      rw [tx_eq (by intro c hc'; rw [List.mem_singleton.mp hc']; exact hc) (by unfold okx; decide), decide_eq_false (by intro z; exact hh (by simpa using z))]
    dsimp? [gAny_bl, hany, ix, show T.str (Str.ofString "0") = tx [48] from rfl, eq, tx_len (show L.length ≤ 16777216 by omega)]
    refine br_d (fun h => ?_) (fun h => ?_)
    · dsimp? [hi]
      unfold vpT
      rw [if_pos ⟨hd, by omega⟩]
    · dsimp?
      unfold vpT
      rw [if_neg (by omega)]
def vn (k L : List Nat) : T := if k = ROM then voT L else if k = PLA then vpT L else coT L
theorem vn_r (L : List Nat) : vn ROM L = voT L := if_pos rfl
theorem vn_p (L : List Nat) : vn PLA L = vpT L := by unfold vn; rw [if_neg (by decide), if_pos rfl]
theorem vn_l (L : List Nat) : vn LET L = coT L := by unfold vn; rw [if_neg (by decide), if_neg (by decide)]
theorem number_any {q : Pt} (h : Okp q) {L : List Nat} (ho : okx L) (hl : L.length ≤ 12) : sem_number_of [tx q.kd, tx L] = some (vn q.kd L, []) := by
  rcases h.kd with e | e | e <;> rw [e]
  · rw [vn_r]; exact number_r ho (by omega)
  · rw [vn_p]; exact plain_any ho (by omega)
  · rw [vn_l]; exact number_l ho hl
theorem vn_some {q : Pt} (h : Okp q) (L : List Nat) : vn q.kd L = .non ∨ ∃ m : Nat, vn q.kd L = .int (m : Nat) ∧ lab q.kd m = L := by
  rcases h.kd with e | e | e <;> rw [e]
  · rw [vn_r]
    unfold voT
    cases hv : vo L with
    | none => exact .inl rfl
    | some m =>
      refine .inr ⟨m, rfl, ?_⟩
      rw [lab_r]
      unfold vo at hv
      split at hv
      · cases hv
      · split at hv
        · next c => cases hv; exact c.2.2
        · cases hv
  · rw [vn_p]
    unfold vpT
    split
    · next c =>
      refine .inr ⟨dv L, rfl, ?_⟩
      rw [lab_p]
      exact (numL_dv L.length L rfl (okD_of c.1)).1
    · exact .inl rfl
  · rw [vn_l]
    unfold coT
    split
    · exact .inl rfl
    · next c =>
      refine .inr ⟨co L, rfl, ?_⟩
      rw [lab_l]
      refine lt_co L (List.all_eq_true.mp ?_)
      cases ha : L.all isA with
      | true => rfl
      | false => exact absurd (.inr ha) c
theorem vn_lab {q : Pt} (h : Okp q) {n : Nat} (h1 : 1 ≤ n) (h2 : n ≤ 70) : vn q.kd (lab q.kd n) = .int (n : Nat) := by
  rcases h.kd with e | e | e <;> rw [e]
  · rw [vn_r, lab_r]
    unfold voT
    rw [vo_num h1 (by omega)]
  · rw [vn_p, lab_p]
    have hd : okD (numL n) = true := by
      unfold okD
      rw [decide_eq_false (numL_ne n), numL_dg, decide_eq_false (numL_head n h1)]
      rfl
    obtain ⟨e1, _⟩ := numL_dv _ (numL n) rfl (okD_of hd)
    have := numL_inj e1
    unfold vpT
    rw [if_pos ⟨hd, Nat.lt_of_le_of_lt (numL_len (k := 2) (by decide) (by omega)) (by decide)⟩, this]
  · rw [vn_l, lab_l]
    unfold coT
    rw [if_neg, co_lt]
    have : (lt n).all isA = true := List.all_eq_true.mpr (lt_isA n)
    rw [this]
    simp [lt_ne (show 0 < n by omega)]
end Law

open PySem PySem.Spec PyProof.Rows L2 TL
namespace Law
open Tw LawP
/-! places of a text -/
def pp (M : List Nat) (b : Nat) (q : Pt) : List Int := ((List.range q.pgs).filter fun i => decide (lb q i = M)).map fun i => ((b + i : Nat) : Int)
def plR (M : List Nat) : Nat → List Pt → List Int
  | _, [] => []
  | b, q :: r => pp M b q ++ plR M (b + q.pgs) r
def plc (M : List Nat) (ps : List Pt) : List Int := ((List.range (labs ps).length).filter fun k => decide ((labs ps).getD k [] = M)).map fun k => ((k : Nat) : Int)
theorem plR_eq (M : List Nat) : ∀ (ps : List Pt) (b : Nat), plR M b ps = ((List.range (labs ps).length).filter fun k => decide ((labs ps).getD k [] = M)).map fun k => ((b + k : Nat) : Int)
  | [], b => rfl
  | q :: r, b => by
    have ih := plR_eq M r (b + q.pgs)
    have e : labs (q :: r) = row q ++ labs r := by unfold labs; rw [List.flatMap_cons]
    show pp M b q ++ plR M (b + q.pgs) r = _
    rw [e, List.length_append, row_len, List.range_add, List.filter_append, List.map_append, List.filter_map, List.map_map, ih]
    congr 1
    · unfold pp
      congr 1
      refine List.filter_congr fun i hi => ?_
      have hi := List.mem_range.mp hi
      rw [List.getD_eq_getElem?_getD, List.getElem?_append_left (by rw [row_len]; omega), ← List.getD_eq_getElem?_getD, getD_row hi]
    · have e1 : ((fun k => decide ((row q ++ labs r).getD k [] = M)) ∘ fun x => q.pgs + x) = fun k => decide ((labs r).getD k [] = M) := by
        funext k
        show decide ((row q ++ labs r).getD (q.pgs + k) [] = M) = _
        rw [List.getD_eq_getElem?_getD, List.getElem?_append_right (by rw [row_len]; omega), row_len, show q.pgs + k - q.pgs = k by omega, List.getD_eq_getElem?_getD]
      rw [e1]
      refine List.map_congr_left fun k _ => ?_
      show ((b + q.pgs + k : Nat) : Int) = ((b + (q.pgs + k) : Nat) : Int)
      omega
theorem filt_one {j : Nat} : ∀ {n : Nat}, j < n → (List.range n).filter (fun i => decide (i = j)) = [j]
  | 0, h => by omega
  | n + 1, h => by
    rw [List.range_succ, List.filter_append]
    by_cases c : j = n
    · subst c
      rw [List.filter_eq_nil_iff.mpr, List.filter_cons, if_pos (by simp)]
      · rfl
      · intro i hi
        have := List.mem_range.mp hi
        simp
        omega
    · rw [filt_one (n := n) (by omega), List.filter_cons, if_neg (by simp; omega)]
      rfl
theorem pp_no {M : List Nat} {b : Nat} {q : Pt} (h : ∀ i, i < q.pgs → lb q i ≠ M) : pp M b q = [] := by
  unfold pp
  rw [List.filter_eq_nil_iff.mpr]
  · rfl
  · intro i hi
    simpa using h i (List.mem_range.mp hi)
theorem pp_one {M : List Nat} {b j : Nat} {q : Pt} (hj : j < q.pgs) (h : ∀ i, i < q.pgs → (lb q i = M ↔ i = j)) : pp M b q = [((b + j : Nat) : Int)] := by
  unfold pp
  rw [List.filter_congr (q := fun i => decide (i = j)), filt_one hj]
  · rfl
  · intro i hi
    rw [decide_eq_decide]
    exact h i (List.mem_range.mp hi)
theorem lb_iff {M : List Nat} {q : Pt} {i : Nat} (hp : M.take q.pre.length = q.pre) : lb q i = M ↔ lab q.kd (q.fst + i) = M.drop q.pre.length := by
  have e : M = q.pre ++ M.drop q.pre.length := by
    conv => lhs; rw [← List.take_append_drop q.pre.length M, hp]
  unfold lb
  constructor
  · intro h
    rw [← h]
    simp
  · intro h
    rw [h, ← e]
theorem lb_pre {M : List Nat} {q : Pt} {i : Nat} (h : lb q i = M) : M.take q.pre.length = q.pre := by
  rw [← h]
  unfold lb
  simp
section
variable {ps : List Pt} (h : ∀ q ∈ ps, Okp q) (hl : ps.length ≤ 6)
include h hl
theorem places_u {M : List Nat} (ho : okx M) (hM : M.length ≤ 12) : sem_places [.lst (ps.map eP), tx M] = some (.lst ((plc M ps).map T.int), []) := by
  have e0 : plR M 0 ps = plc M ps := by
    rw [plR_eq]
    unfold plc
    refine List.map_congr_left fun k _ => ?_
    omega
  have lp : (plc M ps).length ≤ 180 := by
    have h1 := labs_len h
    have h2 := List.length_filter_le (fun k => decide ((labs ps).getD k [] = M)) (List.range (labs ps).length)
    rw [List.length_range] at h2
    unfold plc
    rw [List.length_map]
    omega
  refine wc_eq ?_
  unfold sem_places F_places
  dsimp?
  refine wf_map (xs := ps) (e := eP) (I := fun i γ => ∃ (b : Nat) (L : List Int), L ++ plR M b (ps.drop i) = plc M ps ∧ γ = [some (.lst (ps.map eP)), some (tx M), some (.lst (L.map T.int)), some (.int (b : Nat)), none, none, none, none, none]) ⟨0, [], e0, rfl⟩ ?_ ?_
  · rintro i γ hi ⟨b, L, hb, rfl⟩
    have ok := h _ (List.getElem_mem hi)
    have lL : L.length ≤ 180 := by
      have h1 := congrArg List.length hb
      rw [List.length_append] at h1
      omega
    rw [drop_cons' hi] at hb
    generalize ps[i] = q at ok hb ⊢
    have hb : L ++ (pp M b q ++ plR M (b + q.pgs) (ps.drop (i + 1))) = plc M ps := hb
    have f1 := ok.f1
    have f2 := ok.f2
    have f3 := ok.pg
    obtain ⟨p1, p2⟩ := pre_ok ok
    have e1 : (b : Int) + (q.pgs : Nat) = ((b + q.pgs : Nat) : Int) := by omega
    have st : gStartsX (tx M) (tx q.pre) = some (.bl (decide (M.take q.pre.length = q.pre))) := starts_stx
    have no : (pp M b q = [] → ∃ (b' : Nat) (L' : List Int), L' ++ plR M b' (ps.drop (i + 1)) = plc M ps ∧ [some (T.lst (ps.map eP)), some (tx M), some (T.lst (L.map T.int)), some (T.int ((b + q.pgs : Nat) : Int)), none, none, none, none, none] = [some (T.lst (ps.map eP)), some (tx M), some (.lst (L'.map T.int)), some (.int (b' : Nat)), none, none, none, none, none]) := fun z => by
      rw [z, List.nil_append] at hb
      exact ⟨_, _, hb, rfl⟩
    dsimp? [eP, st]
    refine br_d (fun hp => ?_) (fun hp => ?_)
    · have dl : (M.drop q.pre.length).length ≤ 12 := by rw [List.length_drop]; omega
      dsimp? [tx_len (show q.pre.length ≤ 16777216 by omega), tx_from (show M.length ≤ 16777216 by omega), number_any ok (okx_drop (k := q.pre.length) ho) dl]
      rcases vn_some ok (M.drop q.pre.length) with hv | ⟨m, hv, hm⟩
      · have z : pp M b q = [] := pp_no fun j hj hq => by
          have hq := (lb_iff hp).mp hq
          have := vn_lab ok (n := q.fst + j) (by omega) (by omega)
          rw [hq, hv] at this
          cases this
        dsimp? [hv, e1]
        exact no z
      · dsimp? [hv, ↓we_chain]
        refine br_d (fun h1 => ?_) (fun h1 => ?_)
        · dsimp? [hv]
          refine br_d (fun h2 => ?_) (fun h2 => ?_)
          · have z : pp M b q = [((b + (m - q.fst) : Nat) : Int)] := pp_one (by omega) fun j hj => by
              rw [lb_iff hp]
              constructor
              · intro hq
                have := vn_lab ok (n := q.fst + j) (by omega) (by omega)
                rw [hq, hv] at this
                injection this with this
                omega
              · intro hq
                rw [hq, show q.fst + (m - q.fst) = m by omega]
                exact hm
            rw [z, ← List.append_assoc] at hb
            dsimp? [hv, e1]
            refine sd_i (by rw [List.length_map]; omega) ?_
            dsimp? [hv, e1]
            refine ⟨_, _, hb, ?_⟩
            rw [List.map_append, show (b : Int) + (m : Nat) - (q.fst : Nat) = ((b + (m - q.fst) : Nat) : Int) by omega]
            rfl
          · have z : pp M b q = [] := pp_no fun j hj hq => by
              have hq := (lb_iff hp).mp hq
              have := vn_lab ok (n := q.fst + j) (by omega) (by omega)
              rw [hq, hv] at this
              injection this with this
              omega
            dsimp? [e1]
            exact no z
        · have z : pp M b q = [] := pp_no fun j hj hq => by
            have hq := (lb_iff hp).mp hq
            have := vn_lab ok (n := q.fst + j) (by omega) (by omega)
            rw [hq, hv] at this
            injection this with this
            omega
          dsimp? [e1]
          exact no z
    · have z : pp M b q = [] := pp_no fun j hj hq => hp (lb_pre hq)
      dsimp? [e1]
      exact no z
  · rintro γ ⟨b, L, hb, rfl⟩
    rw [List.drop_length] at hb
    have hb : L ++ [] = plc M ps := hb
    rw [List.append_nil] at hb
    rw [hb]
    dsimp?
/-! the law's own labels and ends -/
theorem llabels_u : sem__law_labels [.lst (ps.map eP)] = some (.lst ((labs ps).map tx), []) := by
  have hn := labs_len h
  refine wc_eq ?_
  unfold sem__law_labels F__law_labels
  dsimp?
  refine wf_map (xs := ps) (e := eP) (I := fun i γ => γ = [some (.lst (ps.map eP)), some (.lst ((labs (ps.take i)).map tx)), none, none, none, none, none, none]) rfl ?_ ?_
  · rintro i γ hi rfl
    have ok := h _ (List.getElem_mem hi)
    have e := labs_take hi
    have ll := labs_len (ps := ps.take i) fun q hq => h q (List.mem_of_mem_take hq)
    rw [List.length_take] at ll
    generalize ps[i] = q at ok e ⊢
    have f1 := ok.f1
    have f2 := ok.f2
    have f3 := ok.pg
    obtain ⟨b1, b2⟩ := pre_ok ok
    dsimp? [eP]
    refine sd_i (by omega) ?_
    dsimp?
    rw [show ((q.fst : Int) + (q.pgs : Nat) - (q.fst : Nat)).toNat = q.pgs by omega]
    refine wf_rng (I := fun j γ => ∃ x6 x7, γ = [some (.lst (ps.map eP)), some (.lst ((labs (ps.take i) ++ (List.range j).map (lb q)).map tx)), some (tx q.pre), some (tx q.kd), some (.int (q.fst : Nat)), some (.int (q.pgs : Nat)), x6, x7]) ⟨none, none, by rw [show (List.range 0).map (lb q) = [] from rfl, List.append_nil]⟩ ?_ ?_
    · rintro j γ hj ⟨x6, x7, rfl⟩
      have e1 : (q.fst : Int) + (j : Nat) = ((q.fst + j : Nat) : Int) := by omega
      obtain ⟨a1, a2⟩ := lab_ok ok (n := q.fst + j) (by omega)
      have ej : (labs (ps.take i) ++ (List.range (j + 1)).map (lb q)).map tx = (labs (ps.take i) ++ (List.range j).map (lb q)).map tx ++ [tx (q.pre ++ lab q.kd (q.fst + j))] := by
        have e0 : (List.range (j + 1)).map (lb q) = (List.range j).map (lb q) ++ [lb q j] := by
          rw [List.range_succ, List.map_append]
          rfl
        rw [e0, ← List.append_assoc, List.map_append]
        rfl
      have el : ((labs (ps.take i) ++ (List.range j).map (lb q)).map tx).length < 16777216 := by
        rw [List.length_map, List.length_append, List.length_map, List.length_range]
        omega
      rcases ok.kd with e | e | e
      · have g1 : gEq (tx q.kd) (tx ROM) = some (.bl true) := by rw [e]; exact kRR
        have nu : sem_numeral [.int ((q.fst + j : Nat) : Int)] = some (tx (lab q.kd (q.fst + j)), []) := by rw [e, lab_r]; exact numeral_u (by omega)
        dsimp? [sR, g1, e1, nu]
        refine wo_of (tx_add (L := q.pre) (M := lab q.kd (q.fst + j)) (by omega)) ?_
        dsimp?
        refine sd_i el ?_
        dsimp?
        exact ⟨_, _, by rw [ej]⟩
      · have g1 : gEq (tx q.kd) (tx ROM) = some (.bl false) := by rw [e]; exact kPR
        have g2 : gEq (tx q.kd) (tx PLA) = some (.bl true) := by rw [e]; exact kPP
        have nu : gStr [.int ((q.fst + j : Nat) : Int)] = some (tx (lab q.kd (q.fst + j))) := by rw [e, lab_p]; exact str_x (by omega)
        dsimp? [sR, sP, g1, g2, e1, nu]
        refine wo_of (tx_add (L := q.pre) (M := lab q.kd (q.fst + j)) (by omega)) ?_
        dsimp?
        refine sd_i el ?_
        dsimp?
        exact ⟨_, _, by rw [ej]⟩
      · have g1 : gEq (tx q.kd) (tx ROM) = some (.bl false) := by rw [e]; exact kLR
        have g2 : gEq (tx q.kd) (tx PLA) = some (.bl false) := by rw [e]; exact kLP
        have nu : sem_letters [.int ((q.fst + j : Nat) : Int)] = some (tx (lab q.kd (q.fst + j)), []) := by rw [e, lab_l]; exact letters_u (Nat.le_trans (lt_len _ 2 (by omega)) (by decide))
        dsimp? [sR, sP, g1, g2, e1, nu]
        refine wo_of (tx_add (L := q.pre) (M := lab q.kd (q.fst + j)) (by omega)) ?_
        dsimp?
        refine sd_i el ?_
        dsimp?
        exact ⟨_, _, by rw [ej]⟩
    · rintro γ ⟨x6, x7, rfl⟩
      dsimp?
      rw [e]
      rfl
  · rintro γ rfl
    rw [List.take_length]
    dsimp?
theorem lends_u : sem__law_ends [.lst (ps.map eP)] = some (.lst ((ens ps).map T.int), []) := by
  refine wc_eq ?_
  unfold sem__law_ends F__law_ends
  dsimp?
  refine wf_map (xs := ps) (e := eP) (I := fun i γ => ∃ (b : Nat) (L : List Int), L ++ enR b (ps.drop i) = ens ps ∧ γ = [some (.lst (ps.map eP)), some (.lst (L.map T.int)), some (.int (b : Nat)), none, none, none, none]) ⟨0, [], rfl, rfl⟩ ?_ ?_
  · rintro i γ hi ⟨b, L, hb, rfl⟩
    have ok := h _ (List.getElem_mem hi)
    have lL : L.length ≤ 6 := by
      have h1 := congrArg List.length hb
      have h2 := enR_len ps 0
      rw [List.length_append] at h1
      unfold ens at h1
      omega
    rw [drop_cons' hi] at hb
    generalize ps[i] = q at ok hb ⊢
    have hb : L ++ ((if 0 < q.pgs then [((b + q.pgs : Nat) : Int) - 1] else []) ++ enR (b + q.pgs) (ps.drop (i + 1))) = ens ps := hb
    have e1 : (b : Int) + (q.pgs : Nat) = ((b + q.pgs : Nat) : Int) := by omega
    dsimp? [eP, e1]
    refine br_d (fun h1 => ?_) (fun h1 => ?_)
    · rw [if_pos (by omega), ← List.append_assoc] at hb
      dsimp?
      refine sd_i (by rw [List.length_map]; omega) ?_
      dsimp?
      exact ⟨_, _, hb, by rw [List.map_append]; rfl⟩
    · rw [if_neg (by omega), List.nil_append] at hb
      dsimp?
      exact ⟨_, _, hb, rfl⟩
  · rintro γ ⟨b, L, hb, rfl⟩
    rw [List.drop_length] at hb
    have hb : L ++ [] = ens ps := hb
    rw [List.append_nil] at hb
    rw [hb]
    dsimp?
end
end Law

open PySem PySem.Spec PyProof.Rows L2 TL
namespace Law
open Tw LawP
theorem in_L {x : Int} {l : List Int} : gIn (.int x) (.lst (l.map T.int)) = some (.bl (decide (x ∈ l))) := by
  show (if okT (.int x) && okT (.lst (l.map T.int)) then some (T.bl ((l.map T.int).any fun z => eqT z (.int x))) else none) = _
  rw [okT_ints, if_pos (by rfl), List.any_map]
  congr 2
  rw [Bool.eq_iff_iff, List.any_eq_true, decide_eq_true_eq]
  constructor
  · rintro ⟨y, hy, e⟩
    have e : eqT (.int y) (.int x) = true := e
    rw [eqT_int, decide_eq_true_eq] at e
    rw [← e]
    exact hy
  · intro h
    refine ⟨x, h, ?_⟩
    show eqT (.int x) (.int x) = true
    rw [eqT_int]
    simp
theorem nin_L {x : Int} {l : List Int} : gNotIn (.int x) (.lst (l.map T.int)) = some (.bl (!decide (x ∈ l))) := by
  have := in_L (x := x) (l := l)
  show (if okT (.int x) && okT (.lst (l.map T.int)) then some (T.bl (!((l.map T.int).any fun z => eqT z (.int x)))) else none) = _
  have e : (if okT (.int x) && okT (.lst (l.map T.int)) then some (T.bl (((l.map T.int).any fun z => eqT z (.int x)))) else none) = some (.bl (decide (x ∈ l))) := this
  rw [okT_ints, if_pos (by rfl)] at e ⊢
  injection e with e
  injection e with e
  rw [e]
/-! runs -/
abbrev Rn := List (Nat × Nat)
def stP (E : List Int) (R : Rn) (a : Nat) : Rn := match R.getLast? with
  | some (f, l) => if (l : Int) = (a : Int) - 1 ∧ ¬ ((a : Int) - 1 ∈ E) then R.dropLast ++ [(f, a)] else R ++ [(a, a)]
  | none => [(a, a)]
theorem stP_nil {E : List Int} {a : Nat} : stP E [] a = [(a, a)] := rfl
theorem stP_app {E : List Int} {R : Rn} {f l a : Nat} : stP E (R ++ [(f, l)]) a = if (l : Int) = (a : Int) - 1 ∧ ¬ ((a : Int) - 1 ∈ E) then R ++ [(f, a)] else R ++ [(f, l)] ++ [(a, a)] := by
  unfold stP
  rw [List.getLast?_append]
  simp only [List.getLast?_singleton, Option.some_or, List.dropLast_concat]
def rnP (E : List Int) (S : List Nat) : Rn := S.foldl (stP E) []
theorem rnP_snoc (E : List Int) (S : List Nat) (a : Nat) : rnP E (S ++ [a]) = stP E (rnP E S) a := by
  unfold rnP
  rw [List.foldl_append]
  rfl
def stL (E : List Int) (b : Nat → Bool) (st : Rn × Option Nat) (a : Nat) : Rn × Option Nat :=
  if b a then (if (a : Int) ∈ E ∨ b (a + 1) = false then (st.1 ++ [((st.2.getD a), a)], none) else (st.1, some (st.2.getD a))) else st
def lwF (E : List Int) (b : Nat → Bool) : Nat → Rn × Option Nat
  | 0 => ([], none)
  | a + 1 => stL E b (lwF E b a) a
def fil (b : Nat → Bool) (a : Nat) : List Nat := (List.range a).filter b
theorem fil_succ (b : Nat → Bool) (a : Nat) : fil b (a + 1) = fil b a ++ (if b a then [a] else []) := by
  unfold fil
  rw [List.range_succ, List.filter_append, List.filter_cons]
  rfl
structure Rel (E : List Int) (b : Nat → Bool) (a : Nat) (F : Rn) (o : Option Nat) : Prop where
  no : o = none → F = rnP E (fil b a) ∧ ∀ R f l, F = R ++ [(f, l)] → l < a ∧ ((l : Int) = (a : Int) - 1 → ((a : Int) - 1 ∈ E ∨ b a = false))
  yes : ∀ f, o = some f → 0 < a ∧ rnP E (fil b a) = F ++ [(f, a - 1)] ∧ ¬ ((a : Int) - 1 ∈ E) ∧ b a = true
theorem rel (E : List Int) (b : Nat → Bool) : ∀ a, Rel E b a (lwF E b a).1 (lwF E b a).2
  | 0 => ⟨fun _ => ⟨rfl, fun R f l e => by
      have := congrArg List.length e
      simp [lwF] at this⟩, fun f e => by cases e⟩
  | a + 1 => by
    have ih := rel E b a
    show Rel E b (a + 1) (stL E b (lwF E b a) a).1 (stL E b (lwF E b a) a).2
    generalize lwF E b a = st at ih ⊢
    obtain ⟨F, o⟩ := st
    dsimp only at ih
    unfold stL
    have ea : (((a + 1 : Nat) : Int) - 1) = (a : Int) := by omega
    by_cases hb : b a = true
    · rw [if_pos hb]
      -- the program's runs
      have key : rnP E (fil b (a + 1)) = F ++ [(o.getD a, a)] := by
        rw [fil_succ, if_pos hb, rnP_snoc]
        cases o with
        | none =>
          obtain ⟨h1, h2⟩ := ih.no rfl
          rw [← h1]
          rcases List.eq_nil_or_concat F with e | ⟨R, ⟨f, l⟩, e⟩
          · rw [e]
            rfl
          · rw [List.concat_eq_append] at e
            obtain ⟨h3, h4⟩ := h2 R f l e
            rw [e, stP_app, if_neg]
            · rfl
            · rintro ⟨c1, c2⟩
              rcases h4 c1 with h5 | h5
              · exact c2 h5
              · rw [hb] at h5; cases h5
        | some f =>
          obtain ⟨h1, h2, h3, h4⟩ := ih.yes f rfl
          rw [h2, stP_app, if_pos ⟨by omega, h3⟩]
          rfl
      by_cases hc : (a : Int) ∈ E ∨ b (a + 1) = false
      · rw [if_pos hc]
        refine ⟨fun _ => ⟨key.symm, fun R f l e => ?_⟩, fun f e => by cases e⟩
        have e2 := (List.append_inj' e rfl).2
        cases e2
        exact ⟨by omega, fun _ => by rw [ea]; exact hc⟩
      · rw [if_neg hc]
        refine ⟨fun e => (by cases e), fun f e => ?_⟩
        cases e
        refine ⟨by omega, key, by rw [ea]; exact fun z => hc (.inl z), ?_⟩
        cases hz : b (a + 1) with
        | true => rfl
        | false => exact absurd (.inr hz) hc
    · rw [if_neg hb]
      have hb' : b a = false := by simpa using hb
      have ef : fil b (a + 1) = fil b a := by rw [fil_succ, if_neg hb, List.append_nil]
      refine ⟨fun e => ?_, fun f e => ?_⟩
      · dsimp only at e ⊢
        obtain ⟨h1, h2⟩ := ih.no e
        refine ⟨by rw [ef]; exact h1, fun R f l e2 => ?_⟩
        obtain ⟨h3, _⟩ := h2 R f l e2
        exact ⟨by omega, fun z => by omega⟩
      · dsimp only at e ⊢
        obtain ⟨_, _, _, h4⟩ := ih.yes f e
        rw [hb'] at h4
        cases h4
/-- the law's runs are the program's -/
theorem runs_same {E : List Int} {b : Nat → Bool} {n : Nat} (hn : b n = false) : (lwF E b n).1 = rnP E (fil b n) := by
  have r := rel E b n
  cases ho : (lwF E b n).2 with
  | none => exact (r.no ho).1
  | some f =>
    have := (r.yes f ho).2.2.2
    rw [hn] at this
    cases this
theorem stP_mem {E : List Int} {R : Rn} {a : Nat} {P : Nat → Prop} (h : ∀ r ∈ R, P r.1 ∧ P r.2) (ha : P a) : ∀ r ∈ stP E R a, P r.1 ∧ P r.2 := by
  rcases List.eq_nil_or_concat R with e | ⟨R', ⟨f, l⟩, e⟩
  · subst e
    intro r hr
    rw [stP_nil] at hr
    rw [List.mem_singleton.mp hr]
    exact ⟨ha, ha⟩
  · rw [List.concat_eq_append] at e
    subst e
    intro r hr
    rw [stP_app] at hr
    have hf := (h (f, l) (by simp)).1
    split at hr
    · rcases List.mem_append.mp hr with hr | hr
      · exact h r (List.mem_append_left _ hr)
      · rw [List.mem_singleton.mp hr]; exact ⟨hf, ha⟩
    · rcases List.mem_append.mp hr with hr | hr
      · exact h r hr
      · rw [List.mem_singleton.mp hr]; exact ⟨ha, ha⟩
theorem rnP_mem {E : List Int} {P : Nat → Prop} (S : List Nat) (h : ∀ a ∈ S, P a) : ∀ r ∈ rnP E S, P r.1 ∧ P r.2 := by
  suffices ∀ (S : List Nat) (R : Rn), (∀ a ∈ S, P a) → (∀ r ∈ R, P r.1 ∧ P r.2) → ∀ r ∈ S.foldl (stP E) R, P r.1 ∧ P r.2 from this S [] h (fun r hr => by simp at hr)
  intro S
  induction S with
  | nil => intro R _ hR; exact hR
  | cons a S ih =>
    intro R hS hR
    exact ih (stP E R a) (fun c hc => hS c (List.mem_cons_of_mem _ hc)) (stP_mem hR (hS a (List.mem_cons_self ..)))
theorem stP_len (E : List Int) (R : Rn) (a : Nat) : (stP E R a).length ≤ R.length + 1 := by
  rcases List.eq_nil_or_concat R with e | ⟨R', ⟨f, l⟩, e⟩
  · subst e
    rw [stP_nil]
    simp
  · rw [List.concat_eq_append] at e
    subst e
    rw [stP_app]
    split <;> simp
theorem rnP_len (E : List Int) : ∀ (S : List Nat) , (rnP E S).length ≤ S.length := by
  suffices ∀ (S : List Nat) (R : Rn), (S.foldl (stP E) R).length ≤ R.length + S.length from fun S => by
    have := this S []
    rwa [List.length_nil, Nat.zero_add] at this
  intro S
  induction S with
  | nil => intro R; simp
  | cons a S ih =>
    intro R
    have h1 := ih (stP E R a)
    have h2 := stP_len E R a
    rw [List.foldl_cons, List.length_cons]
    omega
/-! told_short -/
def eR2 (r : Nat × Nat) : T := .tup [.int (r.1 : Nat), .int (r.2 : Nat)]
def eK (L : List (List Nat)) (r : Nat × Nat) : T := .tup [tx (L.getD r.1 []), tx (L.getD r.2 [])]
theorem at_lastR {R : Rn} {r : Nat × Nat} : atI ((R ++ [r]).map eR2) (-1) = some (eR2 r) := by
  unfold atI ixN
  rw [if_neg (by decide), if_pos (by rw [List.length_map, List.length_append, List.length_singleton]; omega)]
  simp only [List.length_map, List.length_append, List.length_singleton, Option.bind_some]
  rw [show ((-1 : Int) + ((R.length + 1 : Nat) : Int)).toNat = R.length by omega, List.map_append, List.getElem?_append_right (by rw [List.length_map]; exact Nat.le_refl _), List.length_map, Nat.sub_self]
  rfl
theorem st_lastR {R : Rn} {r : Nat × Nat} {v : T} : gSt (.lst ((R ++ [r]).map eR2)) (.int (-1)) v = some (.lst (R.map eR2 ++ [v])) := by
  show (ixN ((R ++ [r]).map eR2).length (-1)).map (fun j => T.lst (((R ++ [r]).map eR2).set j v)) = _
  unfold ixN
  rw [if_neg (by decide), if_pos (by rw [List.length_map, List.length_append, List.length_singleton]; omega)]
  simp only [List.length_map, List.length_append, List.length_singleton, Option.map_some]
  rw [show ((-1 : Int) + ((R.length + 1 : Nat) : Int)).toNat = R.length by omega, List.map_append, List.set_append_right _ _ (by rw [List.length_map]; exact Nat.le_refl _), List.length_map, Nat.sub_self]
  rfl
theorem atK {L : List (List Nat)} {k : Nat} (h : k < L.length) : atI (L.map tx) (k : Int) = some (tx (L.getD k [])) :=
  atI_of (by rw [List.getElem?_map, List.getD_eq_getElem?_getD, List.getElem?_eq_getElem h]; rfl)
section
variable {ps : List Pt} (h : ∀ q ∈ ps, Okp q) (hl : ps.length ≤ 6)
include h hl
theorem told_u {mx : List Int} {S : List Nat} (hm : mx.length < 4000) (hS : sortU mx = S.map fun k => ((k : Nat) : Int)) (hn : ∀ a ∈ S, a < (labs ps).length) (hz : S.length ≤ 180) : sem_told_short [.lst (ps.map eP), .lst (mx.map T.int)] = some (.lst ((rnP (ens ps) S).map (eK (labs ps))), []) := by
  have ln := labs_len h
  have gs : gSortSet (.lst (mx.map T.int)) = some (.lst (S.map fun k => T.int (k : Nat))) := by
    show (intsOf (mx.map T.int)).bind (fun ns => if ns.length < 4000 then some (T.lst ((sortU ns).map T.int)) else none) = _
    rw [intsOf_map, Option.bind_some, if_pos hm, hS, List.map_map]
    rfl
  refine wc_eq ?_
  unfold sem_told_short F_told_short
  dsimp? [labels_u h hl, part_ends_u h hl, gs]
  refine wf_map (xs := S) (e := fun k => T.int (k : Nat)) (I := fun i γ => γ = [some (.lst (ps.map eP)), some (.lst (mx.map T.int)), some (.lst ((rnP (ens ps) (S.take i)).map eR2)), some (.lst ((labs ps).map tx)), some (.lst ((ens ps).map T.int)), none, none, none]) rfl ?_ ?_
  · rintro i γ hi rfl
    have et : S.take (i + 1) = S.take i ++ [S[i]] := by rw [List.take_add_one, List.getElem?_eq_getElem hi]; rfl
    have lR := rnP_len (ens ps) (S.take i)
    rw [List.length_take] at lR
    have es : rnP (ens ps) (S.take (i + 1)) = stP (ens ps) (rnP (ens ps) (S.take i)) S[i] := by rw [et, rnP_snoc]
    rw [es]
    generalize rnP (ens ps) (S.take i) = R at lR ⊢
    generalize S[i] = a
    dsimp?
    rcases List.eq_nil_or_concat R with e | ⟨R', ⟨f, l⟩, e⟩
    · subst e
      dsimp? [List.map_nil, List.isEmpty_nil]
      rfl
    · rw [List.concat_eq_append] at e
      subst e
      have ne : ((R' ++ [(f, l)]).map eR2).isEmpty = false := by simp
      rw [stP_app]
      dsimp? [ne, at_lastR, eR2, nin_L]
      have en : R'.length + 1 ≤ 180 := by rw [List.length_append, List.length_singleton] at lR; omega
      have lz : ((R' ++ [(f, l)]).map eR2).length < 16777216 := by rw [List.length_map, List.length_append, List.length_singleton]; omega
      refine br_d (fun h1 => ?_) (fun h1 => ?_)
      · by_cases h2 : ((a : Int) - 1) ∈ ens ps
        · rw [if_neg (fun z => z.2 h2)]
          dsimp? [nin_L, h2]
          refine sd_i lz ?_
          dsimp?
          rw [List.map_append (l₂ := [(a, a)])]
          rfl
        · rw [if_pos ⟨h1, h2⟩]
          dsimp? [nin_L, h2, at_lastR, eR2]
          refine wo_of (st_lastR (R := R') (r := (f, l))) ?_
          dsimp?
          rw [List.map_append (l₂ := [(f, a)])]
          rfl
      · rw [if_neg (fun z => h1 z.1)]
        dsimp?
        refine sd_i lz ?_
        dsimp?
        rw [List.map_append (l₂ := [(a, a)])]
        rfl
  · rintro γ rfl
    rw [List.take_length]
    have hr := rnP_mem (E := ens ps) (P := fun a => a < (labs ps).length) S hn
    have lR := rnP_len (ens ps) S
    dsimp?
    refine wco_mapx (xs := rnP (ens ps) S) (e := eR2) (f := eK (labs ps)) (by omega) (fun r hm => ?_) ?_
    · obtain ⟨h1, h2⟩ := hr r hm
      dsimp? [eR2, atK h1, atK h2]
      rfl
    dsimp?
end
end Law

open PySem PySem.Spec PyProof.Rows L2 TL
namespace Law
open Tw LawP
theorem cut_to {α : Type} {c : List α} {p : Nat} : cutT c none (some (p : Int)) = c.take p := by
  unfold cutT
  rw [HT.sIx_none, HT.sIx_nat, List.drop_zero, Nat.sub_zero, List.take_eq_take_iff.mpr]
  omega
theorem okT_tx {M : List Nat} (h : okx M) : okT (tx M) = true := ok_x h
theorem okT_txs {S : List (List Nat)} (h : ∀ M ∈ S, okx M) : okT (.lst (S.map tx)) = true := by
  show (S.map tx).all (okN 59) = true
  rw [List.all_eq_true]
  intro t ht
  obtain ⟨M, hM, rfl⟩ := List.mem_map.mp ht
  exact ok_x (h M hM)
theorem eqT_tx {a b : List Nat} (ha : okx a) (hb : okx b) : eqT (tx a) (tx b) = decide (a = b) := by
  have e := tx_eq ha hb
  unfold gEq at e
  rw [okT_tx ha, okT_tx hb] at e
  injection e with e
  injection e
theorem in_tx {S : List (List Nat)} {x : List Nat} (h : ∀ M ∈ S, okx M) (hx : okx x) : gIn (tx x) (.lst (S.map tx)) = some (.bl (decide (x ∈ S))) := by
  show (if okT (tx x) && okT (.lst (S.map tx)) then some (T.bl ((S.map tx).any fun z => eqT z (tx x))) else none) = _
  rw [okT_txs h, okT_tx hx, if_pos (by rfl), List.any_map]
  congr 2
  rw [Bool.eq_iff_iff, List.any_eq_true, decide_eq_true_eq]
  constructor
  · rintro ⟨y, hy, e⟩
    have e : eqT (tx y) (tx x) = true := e
    rw [eqT_tx (h y hy) hx, decide_eq_true_eq] at e
    rw [← e]
    exact hy
  · intro hm
    refine ⟨x, hm, ?_⟩
    show eqT (tx x) (tx x) = true
    rw [eqT_tx hx hx]
    simp
theorem lwF_lt (E : List Int) (b : Nat → Bool) : ∀ (a f : Nat), (lwF E b a).2 = some f → f < a
  | 0, f, h => by cases h
  | a + 1, f, h => by
    have ih := lwF_lt E b a
    have h : (stL E b (lwF E b a) a).2 = some f := h
    unfold stL at h
    split at h
    · split at h
      · cases h
      · have h : some ((lwF E b a).2.getD a) = some f := h
        cases ho : (lwF E b a).2 with
        | none =>
          rw [ho] at h
          cases h
          show a < a + 1
          omega
        | some g =>
          rw [ho] at h
          cases h
          have := ih _ ho
          show g < a + 1
          omega
    · have := ih f h
      omega
theorem lwF_len (E : List Int) (b : Nat → Bool) : ∀ (a : Nat), (lwF E b a).1.length ≤ a
  | 0 => Nat.le_refl _
  | a + 1 => by
    have ih := lwF_len E b a
    show (stL E b (lwF E b a) a).1.length ≤ _
    unfold stL
    split
    · split
      · dsimp only
        rw [List.length_append, List.length_singleton]
        omega
      · dsimp only
        omega
    · omega
def oT : Option Nat → T
  | none => .non
  | some f => .int (f : Nat)
theorem fil_mem {b : Nat → Bool} {n k : Nat} : ((k : Nat) : Int) ∈ (fil b n).map (fun k => ((k : Nat) : Int)) ↔ k < n ∧ b k = true := by
  rw [List.mem_map]
  constructor
  · rintro ⟨j, hj, e⟩
    have : j = k := by omega
    subst this
    unfold fil at hj
    rw [List.mem_filter, List.mem_range] at hj
    exact hj
  · intro h
    refine ⟨k, ?_, rfl⟩
    unfold fil
    rw [List.mem_filter, List.mem_range]
    exact h
section
variable {ps : List Pt} (h : ∀ q ∈ ps, Okp q) (hl : ps.length ≤ 6)
include h hl
theorem lshort_u {b : Nat → Bool} (hb : b (labs ps).length = false) : sem__law_short [.lst (ps.map eP), .lst (((fil b (labs ps).length).map fun k => ((k : Nat) : Int)).map T.int)] = some (.lst ((rnP (ens ps) (fil b (labs ps).length)).map (eK (labs ps))), []) := by
  have ln := labs_len h
  refine wc_eq ?_
  unfold sem__law_short F__law_short
  dsimp? [llabels_u h hl, lends_u h hl]
  refine sd_i (by rw [List.length_map]; omega) ?_
  dsimp?
  rw [List.length_map, Int.toNat_natCast]
  refine wf_rng (I := fun a γ => γ = [some (.lst (ps.map eP)), some (.lst (((fil b (labs ps).length).map fun k => ((k : Nat) : Int)).map T.int)), some (.lst ((labs ps).map tx)), some (.lst ((ens ps).map T.int)), some (.lst ((lwF (ens ps) b a).1.map (eK (labs ps)))), some (oT (lwF (ens ps) b a).2), none]) rfl ?_ ?_
  · rintro a γ ha rfl
    have l1 := lwF_len (ens ps) b a
    have l2 := lwF_lt (ens ps) b a
    have es : lwF (ens ps) b (a + 1) = stL (ens ps) b (lwF (ens ps) b a) a := rfl
    rw [es]
    generalize lwF (ens ps) b a = st at l1 l2 ⊢
    obtain ⟨F, o⟩ := st
    dsimp only at l1 l2
    have m1 : (decide ((a : Int) ∈ (fil b (labs ps).length).map fun k => ((k : Nat) : Int))) = b a := by
      rw [Bool.eq_iff_iff, decide_eq_true_eq, fil_mem]
      exact ⟨fun z => z.2, fun z => ⟨ha, z⟩⟩
    have m2 : (decide (((a : Int) + 1) ∈ (fil b (labs ps).length).map fun k => ((k : Nat) : Int))) = b (a + 1) := by
      rw [Bool.eq_iff_iff, decide_eq_true_eq, show ((a : Int) + 1) = ((a + 1 : Nat) : Int) by omega, fil_mem]
      refine ⟨fun z => z.2, fun z => ⟨?_, z⟩⟩
      by_cases c : a + 1 = (labs ps).length
      · rw [c, hb] at z; cases z
      · omega
    have lF : (F.map (eK (labs ps))).length < 16777216 := by rw [List.length_map]; omega
    unfold stL
    rw [Int.zero_add]
    dsimp? [in_L, m1]
    cases hba : b a with
    | false =>
      rw [if_neg Bool.false_ne_true]
      dsimp?
    | true =>
      rw [if_pos rfl]
      cases o with
      | none =>
        have fl : a < (labs ps).length := ha
        by_cases c1 : (a : Int) ∈ ens ps
        · rw [if_pos (.inl c1)]
          dsimp? [oT, in_L, nin_L, m2, c1, atK fl, atK ha]
          refine sd_i lF ?_
          dsimp?
          rw [List.map_append]
          rfl
        · cases c2 : b (a + 1) with
          | false =>
            rw [if_pos (.inr rfl)]
            dsimp? [oT, in_L, nin_L, m2, c1, c2, atK fl, atK ha]
            refine sd_i lF ?_
            dsimp?
            rw [List.map_append]
            rfl
          | true =>
            rw [if_neg (by simp [c1])]
            dsimp? [oT, in_L, nin_L, m2, c1, c2]
      | some f =>
        have fl : f < (labs ps).length := by have := l2 f rfl; omega
        by_cases c1 : (a : Int) ∈ ens ps
        · rw [if_pos (.inl c1)]
          dsimp? [oT, in_L, nin_L, m2, c1, atK fl, atK ha]
          refine sd_i lF ?_
          dsimp?
          rw [List.map_append]
          rfl
        · cases c2 : b (a + 1) with
          | false =>
            rw [if_pos (.inr rfl)]
            dsimp? [oT, in_L, nin_L, m2, c1, c2, atK fl, atK ha]
            refine sd_i lF ?_
            dsimp?
            rw [List.map_append]
            rfl
          | true =>
            rw [if_neg (by simp [c1])]
            dsimp? [oT, in_L, nin_L, m2, c1, c2]
  · rintro γ rfl
    rw [runs_same hb]
    dsimp?
end
/-! drawn parts -/
theorem parts_w {ns : List Int} {p : T} {K : KC} (hp : Pool ns p) (k : ∀ (ps : List Pt) (p' : T), Pool ns p' → (∀ q ∈ ps, Okp q) → ps.length ≤ 6 → K.ap (.lst (ps.map eP)) [p']) : @WC (sem__law_parts [p]) K := by
  unfold sem__law_parts F__law_parts
  dsimp?
  refine draw_w hp (by decide) (by decide) fun v p1 h1 hv => ?_
  dsimp?
  refine sd_i (by omega) ?_
  dsimp?
  rw [Int.toNat_natCast]
  refine wf_rng (I := fun i γ => ∃ (p : T) (ps : List Pt), Pool ns p ∧ (∀ q ∈ ps, Okp q) ∧ ps.length = i ∧ γ = [some p, some (.lst (ps.map eP)), none, none, none]) ⟨p1, [], h1, fun q hq => by simp at hq, rfl, rfl⟩ ?_ ?_
  · rintro i γ hi ⟨p2, ps, h2, hok, hlen, rfl⟩
    dsimp?
    refine next_w h2 fun p3 h3 => ?_
    dsimp?
    refine pick_w h3 (by simp) (by simp) fun x p4 h4 hx => ?_
    obtain ⟨pr, rfl, hpr⟩ : ∃ pr, x = tx pr ∧ (pr = [] ∨ pr = [97, 45] ∨ pr = [120]) := by
      simp only [List.mem_cons, List.not_mem_nil, or_false] at hx
      rcases hx with rfl | rfl | rfl | rfl
      · exact ⟨[], rfl, .inl rfl⟩
      · exact ⟨[], rfl, .inl rfl⟩
      · exact ⟨[97, 45], rfl, .inr (.inl rfl)⟩
      · exact ⟨[120], rfl, .inr (.inr rfl)⟩
    dsimp?
    refine pick_w h4 (by simp) (by simp) fun y p5 h5 hy => ?_
    obtain ⟨kd, rfl, hkd⟩ : ∃ kd, y = tx kd ∧ (kd = ROM ∨ kd = PLA ∨ kd = LET) := by
      simp only [List.mem_cons, List.not_mem_nil, or_false] at hy
      rcases hy with rfl | rfl | rfl
      · exact ⟨ROM, rfl, .inl rfl⟩
      · exact ⟨PLA, rfl, .inr (.inl rfl)⟩
      · exact ⟨LET, rfl, .inr (.inr rfl)⟩
    dsimp?
    refine pick_w h5 (by simp) (by simp) fun z p6 h6 hz => ?_
    obtain ⟨m, rfl, hm1, hm2⟩ : ∃ m : Nat, z = .int (m : Nat) ∧ 1 ≤ m ∧ m ≤ 40 := by
      simp only [List.mem_cons, List.not_mem_nil, or_false] at hz
      rcases hz with rfl | rfl
      · exact ⟨3, rfl, by omega, by omega⟩
      · exact ⟨40, rfl, by omega, by omega⟩
    dsimp?
    refine draw_w h6 (by omega) (by omega) fun f p7 h7 hf => ?_
    dsimp?
    refine draw_w h7 (by decide) (by decide) fun g p8 h8 hg => ?_
    dsimp?
    refine sd_i (by rw [List.length_map]; omega) ?_
    dsimp?
    refine ⟨_, ps ++ [⟨pr, kd, f + 1, g⟩], h8, fun q hq => ?_, by simp [hlen], ?_⟩
    · rcases List.mem_append.mp hq with hq | hq
      · exact hok q hq
      · rw [List.mem_singleton.mp hq]
        exact ⟨hpr, hkd, by show 1 ≤ f + 1; omega, by show f + 1 ≤ 40; omega, by show g ≤ 30; omega⟩
    · rw [List.map_append, show (1 : Int) + (f : Nat) = ((f + 1 : Nat) : Int) by omega]
      rfl
  · rintro γ ⟨p2, ps, h2, hok, hlen, rfl⟩
    dsimp?
    exact k ps p2 h2 hok (by omega)
end Law

open PySem PySem.Spec PyProof.Rows L2 TL
namespace Law
open Tw LawP
theorem same_ok {t : T} (h : okS 7 t = true) : semR__law_same 8 [t, t] = some (.bl true, []) := by
  rw [er__law_same]
  exact same_self 7 t h
theorem same_w {t : T} {K : KC} (h : okS 7 t = true) (k : K.ap (.bl true) []) : @WC (sem__law_same [t, t]) K := wc_of (same_ok h) k
theorem okS_tx {n : Nat} {M : List Nat} (h : okx M) : okS n (tx M) = true := by
  have := ok_x h
  cases n <;> exact this
theorem okS_txs {S : List (List Nat)} (h : ∀ M ∈ S, okx M) (hl : S.length ≤ 1000) : okS 7 (.lst (S.map tx)) = true := by
  have a : (S.map tx).length < 1000000000 := by rw [List.length_map]; omega
  have b : (S.map tx).all (okS 6) = true := by
    rw [List.all_eq_true]
    intro t ht
    obtain ⟨M, hM, rfl⟩ := List.mem_map.mp ht
    exact okS_tx (h M hM)
  show (decide _ && _) = true
  rw [decide_eq_true a, b]
  rfl
theorem okS_is {l : List Int} (hl : l.length ≤ 1000) : okS 7 (.lst (l.map T.int)) = true := by
  have a : (l.map T.int).length < 1000000000 := by rw [List.length_map]; omega
  have b : (l.map T.int).all (okS 6) = true := by
    rw [List.all_eq_true]
    intro t ht
    obtain ⟨M, hM, rfl⟩ := List.mem_map.mp ht
    rfl
  show (decide _ && _) = true
  rw [decide_eq_true a, b]
  rfl
theorem getD_ok {L : List (List Nat)} (h : ∀ M ∈ L, okx M) (k : Nat) : okx (L.getD k []) := by
  rw [List.getD_eq_getElem?_getD]
  by_cases c : k < L.length
  · rw [List.getElem?_eq_getElem c]
    exact h _ (List.getElem_mem c)
  · rw [List.getElem?_eq_none (by omega)]
    exact okx_nil
theorem okS_K {L : List (List Nat)} (h : ∀ M ∈ L, okx M) {R : Rn} (hl : R.length ≤ 1000) : okS 7 (.lst (R.map (eK L))) = true := by
  have a : (R.map (eK L)).length < 1000000000 := by rw [List.length_map]; omega
  have b : (R.map (eK L)).all (okS 6) = true := by
    rw [List.all_eq_true]
    intro t ht
    obtain ⟨r, hr, rfl⟩ := List.mem_map.mp ht
    have e1 := okS_tx (n := 5) (getD_ok h r.1)
    have e2 := okS_tx (n := 5) (getD_ok h r.2)
    show (decide (2 < 1000000000) && [tx (L.getD r.1 []), tx (L.getD r.2 [])].all (okS 5)) = true
    simp only [List.all_cons, e1, e2, List.all_nil]
    rfl
  show (decide _ && _) = true
  rw [decide_eq_true a, b]
  rfl
theorem okT_P {ps : List Pt} (h : ∀ q ∈ ps, Okp q) : okT (.lst (ps.map eP)) = true := by
  show (ps.map eP).all (okN 59) = true
  rw [List.all_eq_true]
  intro t ht
  obtain ⟨q, hq, rfl⟩ := List.mem_map.mp ht
  have e1 : okN 58 (tx q.pre) = true := ok_x (pre_ok (h q hq)).1
  have e2 : okN 58 (tx q.kd) = true := by
    rcases (h q hq).kd with e | e | e <;> rw [e]
    · exact ok_x okR
    · exact ok_x okP
    · exact ok_x okL
  show [tx q.pre, tx q.kd, T.int q.fst, T.int q.pgs].all (okN 58) = true
  simp only [List.all_cons, e1, e2, List.all_nil]
  rfl
theorem gEq_P {ps : List Pt} (h : ∀ q ∈ ps, Okp q) : gEq (.lst (ps.map eP)) (.lst (ps.map eP)) = some (.bl true) := by
  unfold gEq
  rw [okT_P h, eqT_refl 60 _ (okT_P h)]
  rfl
theorem fil_pw (b : Nat → Bool) (n : Nat) : ((fil b n).map fun k => ((k : Nat) : Int)).Pairwise (· < ·) := by
  rw [List.pairwise_map]
  refine List.Pairwise.imp (fun {a b} (h : a < b) => by omega) ?_
  exact List.Pairwise.filter _ List.pairwise_lt_range
theorem fil_len (b : Nat → Bool) (n : Nat) : (fil b n).length ≤ n := by
  have := List.length_filter_le b (List.range n)
  rwa [List.length_range] at this
theorem fil_congr {b c : Nat → Bool} {n : Nat} (h : ∀ k, k < n → b k = c k) : fil b n = fil c n := by
  unfold fil
  exact List.filter_congr fun k hk => h k (List.mem_range.mp hk)
theorem mixed_sort {Z : List Int} (h : Z.Pairwise (· < ·)) : sortU (Z.reverse ++ Z.take 2) = Z := by
  refine asc_eq pw_sortU h fun k => ?_
  rw [mem_sortU, List.mem_append, List.mem_reverse]
  exact ⟨fun z => z.elim id List.mem_of_mem_take, .inl⟩
noncomputable def R_t : Fs :=
  (sSeq (sAsg 8 (eOwn sem__law_pick [1] (aIo 1 (aCons (eLst (aCons (eVar 8) (aCons (eSl gSlX (eVar 8) (oSome (eLit (.int 1))) oNone) (aCons (eBin gAdd (eVar 8) (eLit (.str "i"))) (aCons (eBin gAdd (eLit (.str "a-")) (eVar 8)) (aCons (eBin gAdd (eLit (.str "x")) (eVar 8)) (aCons (eBin gAdd (eLit (.str "0")) (eVar 8)) aNil))))))) aNil)))) (sSeq (sIf (tNotT (tTru (eOwn sem__law_same [] (aCons (eOwn sem_places [] (aCons (eVar 4) (aCons (eVar 8) aNil))) (aCons (eComp [11] (iR1 (aCons (eCall gLen (aCons (eVar 3) aNil)) aNil)) (tgN 11) (tOf (eBin gEq (eBin gIx (eVar 3) (eVar 11)) (eVar 8))) (eVar 11)) aNil))))) (sRet (eLit (.bl false))) sNx) (sSeq (sAsg 9 (eComp [11] (iR1 (aCons (eCall gLen (aCons (eVar 3) aNil)) aNil)) (tgN 11) (tOf (eBin gGt (eOwn sem__law_draw [1] (aIo 1 (aCons (eLit (.int 3)) aNil))) (eLit (.int 0)))) (eVar 11))) (sSeq (sAsg 10 (eBin gAdd (eUn gRev (eVar 9)) (eSl gSl (eVar 9) oNone (oSome (eLit (.int 2)))))) (sSeq (sIf (tNotT (tTru (eOwn sem__law_same [] (aCons (eOwn sem_told_short [] (aCons (eVar 4) (aCons (eVar 10) aNil))) (aCons (eOwn sem__law_short [] (aCons (eVar 2) (aCons (eVar 9) aNil))) aNil))))) (sRet (eLit (.bl false))) sNx) (sKill 6 (sKill 7 (sKill 8 (sKill 9 (sKill 10 sNx))))))))))
noncomputable def M_t : Fs :=
  (sSeq (sAsg 8 (eIf (tOf (eBin gGt (eCall gLen (aCons (eVar 3) aNil)) (eLit (.int 0)))) (eOwn sem__law_pick [1] (aIo 1 (aCons (eVar 3) aNil))) (eLit (.str "i")))) R_t)
noncomputable def B_law : Fs :=
  (sSeq (sAsg 7 (eBin gSub (eOwn sem__law_draw [1] (aIo 1 (aCons (eBin gAdd (eCall gLen (aCons (eVar 3) aNil)) (eLit (.int 4))) aNil))) (eLit (.int 2)))) (sSeq (sIf (tNotT (tTru (eOwn sem__law_same [] (aCons (eOwn sem_page_at [] (aCons (eVar 4) (aCons (eVar 7) aNil))) (aCons (eIf (tOf (eChain gLe gLt (eLit (.int 0)) (eVar 7) (eCall gLen (aCons (eVar 3) aNil)))) (eBin gIx (eVar 3) (eVar 7)) (eLit .non)) aNil))))) (sRet (eLit (.bl false))) sNx) M_t))
noncomputable def A_t : Fs :=
  (sSeq (sFor (iR1 (aCons (eLit (.int 8)) aNil)) (tgN 6) B_law) (sRet (eBin gEq (eVar 4) (eVar 2))))
noncomputable def A_law : Fs :=
  (sSeq (sAsg 1 (eOwn sem__law_pool [] (aCons (eVar 0) aNil))) (sSeq (sAsg 2 (eOwn sem__law_parts [1] (aIo 1 aNil))) (sSeq (sAsg 3 (eOwn sem__law_labels [] (aCons (eVar 2) aNil))) (sSeq (sAsg 4 (eCall gListOf (aCons (eVar 2) aNil))) (sSeq (sIf (tOrT (tNotT (tTru (eOwn sem__law_same [] (aCons (eOwn sem_labels [] (aCons (eVar 4) aNil)) (aCons (eVar 3) aNil))))) (tNotT (tTru (eOwn sem__law_same [] (aCons (eOwn sem_part_ends [] (aCons (eVar 4) aNil)) (aCons (eOwn sem__law_ends [] (aCons (eVar 2) aNil)) aNil)))))) (sRet (eLit (.bl false))) sNx) (sSeq (sAsg 5 (eComp [11] (iR1 (aCons (eCall gLen (aCons (eVar 3) aNil)) aNil)) (tgN 11) (tOf (eBin gIn (eBin gIx (eVar 3) (eVar 11)) (eSl gSl (eVar 3) oNone (oSome (eVar 11))))) (eBin gIx (eVar 3) (eVar 11)))) (sSeq (sIf (tNotT (tTru (eOwn sem__law_same [] (aCons (eOwn sem_first_twice [] (aCons (eVar 4) aNil)) (aCons (eIf (tOf (eBin gGt (eCall gLen (aCons (eVar 5) aNil)) (eLit (.int 0)))) (eBin gIx (eVar 5) (eLit (.int 0))) (eLit .non)) aNil))))) (sRet (eLit (.bl false))) sNx) A_t)))))))
section
variable {ns : List Int} {p : T} {ps : List Pt} {W : T}
def OutB (ns : List Int) (ps : List Pt) (W : T) (o : Out) : Prop := ∃ p', Pool ns p' ∧ o = .nx [some (scr ns), some p', some (.lst (ps.map eP)), some (.lst ((labs ps).map tx)), some (.lst (ps.map eP)), some W, none, none, none, none, none, none]
theorem rest_ok (h : ∀ q ∈ ps, Okp q) (hl : ps.length ≤ 6) (hp : Pool ns p) {i a : T} {M0 : List Nat} (h0 : okx M0) (hM0 : M0.length ≤ 9) : @WS R_t [some (scr ns), some p, some (.lst (ps.map eP)), some (.lst ((labs ps).map tx)), some (.lst (ps.map eP)), some W, some i, some a, some (tx M0), none, none, none] ⟨OutB ns ps W⟩ := by
  have ln := labs_len h
  have lok := labs_ok h
  have l16 : M0.length ≤ 16777216 := by omega
  have f1 : gSlX (tx M0) (some 1) none = some (tx (M0.drop 1)) := tx_from (k := 1) l16
  have f2 : gAdd (tx M0) (T.str (Str.ofString "i")) = some (tx (M0 ++ [105])) := tx_add (M := [105]) (by simp only [List.length_singleton]; omega)
  have f3 : gAdd (T.str (Str.ofString "a-")) (tx M0) = some (tx ([97, 45] ++ M0)) := tx_add (L := [97, 45]) (by simp only [List.length_cons, List.length_nil]; omega)
  have f4 : gAdd (T.str (Str.ofString "x")) (tx M0) = some (tx ([120] ++ M0)) := tx_add (L := [120]) (by simp only [List.length_singleton]; omega)
  have f5 : gAdd (T.str (Str.ofString "0")) (tx M0) = some (tx ([48] ++ M0)) := tx_add (L := [48]) (by simp only [List.length_singleton]; omega)
  unfold R_t
  dsimp? [f1, f2, f3, f4, f5]
  refine pick_w hp (by simp) (by simp) fun z p1 h1 hz => ?_
  obtain ⟨M, rfl, ho, hM⟩ : ∃ M, z = tx M ∧ okx M ∧ M.length ≤ 12 := by
    simp only [List.mem_cons, List.not_mem_nil, or_false] at hz
    rcases hz with rfl | rfl | rfl | rfl | rfl | rfl
    · exact ⟨_, rfl, h0, by omega⟩
    · exact ⟨_, rfl, okx_drop h0, by rw [List.length_drop]; omega⟩
    · exact ⟨_, rfl, okx_app h0 (by unfold okx; decide), by rw [List.length_append, List.length_singleton]; omega⟩
    · exact ⟨_, rfl, okx_app (by unfold okx; decide) h0, by rw [List.length_append]; simp only [List.length_cons, List.length_nil]; omega⟩
    · exact ⟨_, rfl, okx_app (by unfold okx; decide) h0, by rw [List.length_append, List.length_singleton]; omega⟩
    · exact ⟨_, rfl, okx_app (by unfold okx; decide) h0, by rw [List.length_append, List.length_singleton]; omega⟩
  dsimp? [places_u h hl ho hM]
  refine sd_i (by rw [List.length_map]; omega) ?_
  dsimp?
  rw [List.length_map, Int.toNat_natCast]
  refine wco_rngf (fun k => decide ((labs ps).getD k [] = M)) (fun k => T.int (k : Nat)) (by omega) (fun k hk => ?_) ?_
  · rw [Int.zero_add]
    dsimp? [atK hk, tx_eq (getD_ok (fun M hM => (lok M hM).1) k) ho]
    refine br_d (fun h => ?_) (fun h => ?_)
    · dsimp?
    · dsimp?
  have ep : (((List.range (labs ps).length).filter fun k => decide ((labs ps).getD k [] = M)).map fun k => T.int (k : Nat)) = (plc M ps).map T.int := by
    unfold plc
    rw [List.map_map]
    rfl
  have lp : (plc M ps).length ≤ 1000 := by
    have h2 := List.length_filter_le (fun k => decide ((labs ps).getD k [] = M)) (List.range (labs ps).length)
    rw [List.length_range] at h2
    unfold plc
    rw [List.length_map]
    omega
  rw [ep]
  dsimp?
  refine same_w (okS_is lp) ?_
  dsimp?
  refine sd_i (by rw [List.length_map]; omega) ?_
  dsimp?
  rw [List.length_map, Int.toNat_natCast]
  refine wco_for (I := fun j acc γ => ∃ (p : T) (c : Nat → Bool), Pool ns p ∧ acc = (fil c j).map (fun k => T.int (k : Nat)) ∧ γ = [some (scr ns), some p, some (.lst (ps.map eP)), some (.lst ((labs ps).map tx)), some (.lst (ps.map eP)), some W, some i, some a, some (tx M), none, none, none]) (by rw [rngT_len, Tw.sizeLine_eq]; omega) ⟨p1, fun _ => false, h1, rfl, rfl⟩ ?_ ?_
  · rintro j t acc γ ht ⟨p2, c, h2, rfl, rfl⟩
    obtain ⟨hj, rfl⟩ := rngT_get ht
    rw [Int.zero_add]
    dsimp?
    refine draw_w h2 (by decide) (by decide) fun v p3 h3 hv => ?_
    have ext : ∀ d : Bool, (fil (fun k => if k = j then d else c k) (j + 1)).map (fun k => T.int (k : Nat)) = (fil c j).map (fun k => T.int (k : Nat)) ++ (if d then [T.int (j : Nat)] else []) := by
      intro d
      rw [fil_succ, List.map_append, if_pos rfl, fil_congr (c := c) fun k hk => if_neg (by omega)]
      congr 1
      cases d <;> rfl
    dsimp?
    refine br_d (fun hv => ?_) (fun hv => ?_)
    · dsimp?
      exact ⟨p3, _, h3, (ext true).symm, rfl⟩
    · refine ⟨p3, fun k => if k = j then false else c k, h3, ?_, rfl⟩
      rw [ext false]
      simp
  rintro us γ ⟨p2, c, h2, rfl, rfl⟩
  rw [rngT_len]
  have eb : fil c (labs ps).length = fil (fun k => c k && decide (k < (labs ps).length)) (labs ps).length := fil_congr fun k hk => by simp [hk]
  rw [eb]
  generalize hb : (fun k => c k && decide (k < (labs ps).length)) = b
  have hbn : b (labs ps).length = false := by rw [← hb]; simp
  have hfl := fil_len b (labs ps).length
  have hpw := fil_pw b (labs ps).length
  have hmem : ∀ k ∈ fil b (labs ps).length, k < (labs ps).length := fun k hk => List.mem_range.mp (List.mem_filter.mp hk).1
  have told := told_u h hl (mx := ((fil b (labs ps).length).map fun k => ((k : Nat) : Int)).reverse ++ ((fil b (labs ps).length).map fun k => ((k : Nat) : Int)).take 2) (S := fil b (labs ps).length)
    (by rw [List.length_append, List.length_reverse, List.length_take, List.length_map]; omega) (mixed_sort hpw) hmem (by omega)
  have lsh := lshort_u h hl hbn
  have lR := rnP_len (ens ps) (fil b (labs ps).length)
  have es : (fil b (labs ps).length).map (fun k => T.int (k : Nat)) = ((fil b (labs ps).length).map fun k => ((k : Nat) : Int)).map T.int := by rw [List.map_map]; rfl
  rw [es]
  generalize hZ : ((fil b (labs ps).length).map fun k => ((k : Nat) : Int)) = Z at told lsh hpw
  have lZ : Z.length ≤ 1000 := by rw [← hZ, List.length_map]; omega
  have rv : gRev (.lst (Z.map T.int)) = some (.lst (Z.reverse.map T.int)) := by
    show some (T.lst (Z.map T.int).reverse) = _
    rw [List.map_reverse]
  have sl : cutT (Z.map T.int) none (some 2) = (Z.take 2).map T.int := by
    rw [List.map_take]
    exact cut_to (p := 2)
  have ad : gAdd (.lst (Z.reverse.map T.int)) (.lst ((Z.take 2).map T.int)) = some (.lst ((Z.reverse ++ Z.take 2).map T.int)) := by
    rw [r_addL, if_pos (by rw [List.length_map, List.length_map, List.length_reverse, List.length_take, Tw.sizeLine_eq]; omega), List.map_append]
  dsimp? [rv, sl]
  refine sd_i (by rw [List.length_map, List.length_map, List.length_reverse, List.length_take]; omega) ?_
  dsimp?
  rw [← List.map_append]
  dsimp? [told, lsh]
  refine same_w (okS_K (fun M hM => (lok M hM).1) (by omega)) ?_
  dsimp?
  exact ⟨_, h2, rfl⟩
theorem body_ok (h : ∀ q ∈ ps, Okp q) (hl : ps.length ≤ 6) (hp : Pool ns p) {i : T} : @WS B_law [some (scr ns), some p, some (.lst (ps.map eP)), some (.lst ((labs ps).map tx)), some (.lst (ps.map eP)), some W, some i, none, none, none, none, none] ⟨OutB ns ps W⟩ := by
  have ln := labs_len h
  have lok := labs_ok h
  unfold B_law
  dsimp?
  refine draw_w hp (by rw [List.length_map]; omega) (by rw [List.length_map]; omega) fun v p1 h1 hv => ?_
  rw [List.length_map] at hv
  have pe := pa_eq ps ((v : Int) - 2)
  have fin : ∀ a : T, @WS M_t [some (scr ns), some p1, some (.lst (ps.map eP)), some (.lst ((labs ps).map tx)), some (.lst (ps.map eP)), some W, some i, some a, none, none, none, none] ⟨OutB ns ps W⟩ := by
    intro a
    unfold M_t
    dsimp?
    refine br_d (fun h3 => ?_) (fun h3 => ?_)
    · rw [List.length_map] at h3
      dsimp?
      have hne : (labs ps).map tx ≠ [] := by
        intro z
        have z := congrArg List.length z
        rw [List.length_map] at z
        have : (labs ps).length = 0 := z
        omega
      refine pick_w h1 hne (by rw [List.length_map]; omega) fun z p2 h2 hz => ?_
      obtain ⟨M, hM, rfl⟩ := List.mem_map.mp hz
      dsimp?
      exact rest_ok h hl h2 (lok M hM).1 (lok M hM).2
    · dsimp?
      exact rest_ok h hl h1 (M0 := [105]) (by unfold okx; decide) (by decide)
  dsimp? [page_at_u h hl (a := (v : Int) - 2) (by omega), ↓we_chain]
  refine br_d (fun h3 => ?_) (fun h3 => ?_)
  · dsimp?
    refine br_d (fun h4 => ?_) (fun h4 => ?_)
    · rw [List.length_map] at h4
      have e2 : (v : Int) - 2 = ((v - 2 : Nat) : Int) := by omega
      rw [if_pos ⟨h3, h4⟩] at pe
      rw [pe]
      rw [show ((v : Int) - 2).toNat = v - 2 by omega]
      rw [e2]
      dsimp? [atK (L := labs ps) (k := v - 2) (by omega)]
      refine same_w (okS_tx (getD_ok (fun M hM => (lok M hM).1) _)) ?_
      dsimp?
      exact fin _
    · rw [List.length_map] at h4
      rw [if_neg (fun z => h4 z.2)] at pe
      rw [pe]
      dsimp?
      refine same_w (by rfl) ?_
      dsimp?
      exact fin _
  · rw [if_neg (fun z => h3 z.1)] at pe
    rw [pe]
    dsimp?
    refine same_w (by rfl) ?_
    dsimp?
    exact fin _
end
theorem tw_ok : ∀ (r S : List (List Nat)), (∀ M ∈ r, okx M) → ∀ M ∈ tw S r, okx M
  | [], _, _ => fun M hM => by simp [tw] at hM
  | x :: r, S, h => fun M hM => by
    have hM : M ∈ (if x ∈ S then [x] else []) ++ tw (S ++ [x]) r := hM
    rcases List.mem_append.mp hM with hM | hM
    · split at hM
      · rw [List.mem_singleton.mp hM]
        exact h x (List.mem_cons_self ..)
      · simp at hM
    · exact tw_ok r _ (fun M hM => h M (List.mem_cons_of_mem _ hM)) M hM
theorem law_true (ns : List Int) (hl : ns.length ≤ 63) : sem_law [.old (ns.map T.int)] = some (.bl true, []) := by
  refine wc_eq ?_
  unfold sem_law
  rw [show F_law = A_law from rfl]
  unfold A_law
  dsimp?
  refine pool_w (ns := ns) fun p hp => ?_
  dsimp?
  refine parts_w hp fun ps p1 h1 h hl => ?_
  have ln := labs_len h
  have lok : ∀ M ∈ labs ps, okx M := fun M hM => (labs_ok h M hM).1
  dsimp? [llabels_u h hl, labels_u h hl]
  refine same_w (okS_txs lok (by omega)) ?_
  dsimp? [part_ends_u h hl, lends_u h hl]
  refine same_w (okS_is (by have := enR_len ps 0; unfold ens; omega)) ?_
  dsimp?
  refine sd_i (by rw [List.length_map]; omega) ?_
  dsimp?
  rw [List.length_map, Int.toNat_natCast]
  refine wco_for (I := fun j acc γ => ∃ A : List (List Nat), A ++ tw ((labs ps).take j) ((labs ps).drop j) = tw [] (labs ps) ∧ acc = A.map tx ∧ γ = [some (scr ns), some p1, some (.lst (ps.map eP)), some (.lst ((labs ps).map tx)), some (.lst (ps.map eP)), none, none, none, none, none, none, none]) (by rw [rngT_len, Tw.sizeLine_eq]; omega) ⟨[], rfl, rfl, rfl⟩ ?_ ?_
  · rintro j t acc γ ht ⟨A, hA, rfl, rfl⟩
    obtain ⟨hj, rfl⟩ := rngT_get ht
    rw [drop_cons' hj] at hA
    have et : (labs ps).take (j + 1) = (labs ps).take j ++ [(labs ps)[j]] := by rw [List.take_add_one, List.getElem?_eq_getElem hj]; rfl
    have eg : (labs ps).getD j [] = (labs ps)[j] := by rw [List.getD_eq_getElem?_getD, List.getElem?_eq_getElem hj]; rfl
    have ox : okx (labs ps)[j] := lok _ (List.getElem_mem hj)
    have ex := atK hj
    rw [eg] at ex
    generalize (labs ps)[j] = x at hA et ox ex
    have hA : A ++ ((if x ∈ (labs ps).take j then [x] else []) ++ tw ((labs ps).take j ++ [x]) ((labs ps).drop (j + 1))) = tw [] (labs ps) := hA
    have sl : cutT ((labs ps).map tx) none (some (j : Int)) = ((labs ps).take j).map tx := by
      rw [List.map_take]
      exact cut_to
    have inx := in_tx (S := (labs ps).take j) (fun M hM => lok M (List.mem_of_mem_take hM)) ox
    rw [Int.zero_add]
    dsimp? [ex, sl, inx]
    refine br_d (fun hc => ?_) (fun hc => ?_)
    · rw [if_pos hc, ← List.append_assoc] at hA
      dsimp? [ex]
      first | exact ⟨A ++ [x], by rw [et]; exact hA, by rw [List.map_append]; rfl, rfl⟩ | exact ⟨A ++ [x], by rw [et]; exact hA, by rw [List.map_append]; rfl⟩
    · rw [if_neg hc, List.nil_append] at hA
      first | exact ⟨A, by rw [et]; exact hA, rfl, rfl⟩ | exact ⟨A, by rw [et]; exact hA, rfl⟩
  rintro us γ ⟨A, hA, rfl, rfl⟩
  rw [rngT_len, List.drop_length] at hA
  have hA : A ++ [] = tw [] (labs ps) := hA
  rw [List.append_nil] at hA
  have ok2 := tw_ok (labs ps) [] lok
  have lA : A.length ≤ 1000 := by
    rw [hA]
    have : ∀ (r S : List (List Nat)), (tw S r).length ≤ r.length := by
      intro r
      induction r with
      | nil => intro S; exact Nat.le_refl _
      | cons x r ih =>
        intro S
        have := ih (S ++ [x])
        show ((if x ∈ S then [x] else []) ++ tw (S ++ [x]) r).length ≤ _
        rw [List.length_append, List.length_cons]
        split <;> simp <;> omega
    have := this (labs ps) []
    omega
  have fin : ∀ W, @WS A_t [some (scr ns), some p1, some (.lst (ps.map eP)), some (.lst ((labs ps).map tx)), some (.lst (ps.map eP)), some W, none, none, none, none, none, none] (finK [] ⟨fun t' us' => t' = T.bl true ∧ us' = []⟩) := by
    intro W
    unfold A_t
    dsimp?
    refine wf_rng (I := fun i γ => ∃ p, Pool ns p ∧ γ = [some (scr ns), some p, some (.lst (ps.map eP)), some (.lst ((labs ps).map tx)), some (.lst (ps.map eP)), some W, none, none, none, none, none, none]) ⟨p1, h1, rfl⟩ ?_ ?_
    · rintro i γ hi ⟨p2, h2, rfl⟩
      refine ⟨_, rfl, ?_⟩
      refine ws_mono (body_ok h hl h2) ?_
      rintro o ⟨p3, h3, rfl⟩
      exact ⟨_, h3, rfl⟩
    · rintro γ ⟨p2, h2, rfl⟩
      dsimp? [gEq_P h]
  have ft := first_twice_u h hl
  unfold ftT at ft
  rw [← hA] at ft ok2
  cases A with
  | nil =>
    have ft : sem_first_twice [.lst (ps.map eP)] = some (.non, []) := ft
    dsimp? [ft, List.map_nil]
    refine br_d (fun hc => by simp at hc) (fun _ => ?_)
    dsimp?
    refine same_w (t := .non) rfl ?_
    dsimp?
    exact fin _
  | cons x A =>
    have ft : sem_first_twice [.lst (ps.map eP)] = some (tx x, []) := ft
    dsimp? [ft, List.map_cons]
    refine br_d (fun hc => ?_) (fun hc => absurd (by rw [List.length_map]; omega) hc)
    dsimp? [List.map_cons]
    refine same_w (okS_tx (ok2 x (List.mem_cons_self ..))) ?_
    dsimp?
    exact fin _
end Law

open PySem PySem.W PyProof.Rows
set_option maxHeartbeats 0 in
theorem PySem.Challenge.cw_inkwright_k05_whole_labels_of_books_holds : PySem.Challenge.rw_inkwright_k05_whole_labels_of_books.Holds := by
  w_on; o_law; k_head; (case hw => w_witness2)
  k_fill
  refine L2.walk_of (l := PySem.Challenge.rw_inkwright_k05_whole_labels_of_books) (n := 63) (k := 10) (x := "script") (CX := fun _ => L2.CX0) (sp := fun w => Tw.spF _ [false] false Law.sem_law) rfl (by decide) rfl ⟨rfl, by decide, by decide⟩ (fun w h Y => PySem.W.kIn_of Y) ?F (fun w H a ns hl ho hS => Tw.law_sp hS (Law.law_true ns hl)) (fun _ _ _ _ _ h => h)
  case F =>
    intro w mg fa h KX G hmg
    refine' Tw.law_F (nm := "law") (Law.ok_all (⟨(Tw.has_mk KX G ?a0 ?l0 ?c0 ?k0), (Tw.has_mk KX G ?a1 ?l1 ?c1 ?k1), (Tw.has_mk KX G ?a2 ?l2 ?c2 ?k2), (Tw.has_mk KX G ?a3 ?l3 ?c3 ?k3), (Tw.has_mk KX G ?a4 ?l4 ?c4 ?k4), (Tw.has_mk KX G ?a5 ?l5 ?c5 ?k5), (Tw.has_mk KX G ?a6 ?l6 ?c6 ?k6), (Tw.has_mk KX G ?a7 ?l7 ?c7 ?k7), (Tw.has_mk KX G ?a8 ?l8 ?c8 ?k8), (Tw.has_mk KX G ?a9 ?l9 ?c9 ?k9), (Tw.has_mk KX G ?a10 ?l10 ?c10 ?k10), (Tw.has_mk KX G ?a11 ?l11 ?c11 ?k11), (Tw.has_mk KX G ?a12 ?l12 ?c12 ?k12), (Tw.has_mk KX G ?a13 ?l13 ?c13 ?k13), (Tw.has_mk KX G ?a14 ?l14 ?c14 ?k14), (Tw.has_mk KX G ?a15 ?l15 ?c15 ?k15), (Tw.has_mk KX G ?a16 ?l16 ?c16 ?k16), (Tw.has_mk KX G ?a17 ?l17 ?c17 ?k17), (Tw.has_mk KX G ?a18 ?l18 ?c18 ?k18), (Tw.has_mk KX G ?a19 ?l19 ?c19 ?k19), (Tw.has_mk KX G ?a20 ?l20 ?c20 ?k20), (Tw.has_mk KX G ?a21 ?l21 ?c21 ?k21), (Tw.has_mk KX G ?a22 ?l22 ?c22 ?k22), (Tw.has_mk KX G ?a23 ?l23 ?c23 ?k23), (PySem.W.mg_none_of KX G ?z0), (PySem.W.mg_none_of KX G ?z1), (PySem.W.mg_none_of KX G ?z2), (PySem.W.mg_none_of KX G ?z3), (PySem.W.mg_none_of KX G ?z4), (PySem.W.mg_none_of KX G ?z5), (PySem.W.mg_none_of KX G ?z6), (PySem.W.mg_none_of KX G ?z7), (PySem.W.mg_none_of KX G ?z8), (PySem.W.mg_none_of KX G ?z9), (PySem.W.mg_none_of KX G ?z10), (PySem.W.mg_none_of KX G ?z11), (PySem.W.mg_none_of KX G ?z12), (PySem.W.mg_none_of KX G ?z13), (Tw.cst_mk KX G ?m0 Tw.cv_str), (Tw.cst_mk KX G ?m1 (Tw.cv_tup ?q1_0 ?q1_0e (.cons (Tw.cv_tup ?q1_2 ?q1_2e (.cons Tw.cv_int (.cons Tw.cv_str .nil))) (.cons (Tw.cv_tup ?q1_4 ?q1_4e (.cons Tw.cv_int (.cons Tw.cv_str .nil))) (.cons (Tw.cv_tup ?q1_6 ?q1_6e (.cons Tw.cv_int (.cons Tw.cv_str .nil))) (.cons (Tw.cv_tup ?q1_8 ?q1_8e (.cons Tw.cv_int (.cons Tw.cv_str .nil))) (.cons (Tw.cv_tup ?q1_10 ?q1_10e (.cons Tw.cv_int (.cons Tw.cv_str .nil))) (.cons (Tw.cv_tup ?q1_12 ?q1_12e (.cons Tw.cv_int (.cons Tw.cv_str .nil))) (.cons (Tw.cv_tup ?q1_14 ?q1_14e (.cons Tw.cv_int (.cons Tw.cv_str .nil))) (.cons (Tw.cv_tup ?q1_16 ?q1_16e (.cons Tw.cv_int (.cons Tw.cv_str .nil))) (.cons (Tw.cv_tup ?q1_18 ?q1_18e (.cons Tw.cv_int (.cons Tw.cv_str .nil))) (.cons (Tw.cv_tup ?q1_20 ?q1_20e (.cons Tw.cv_int (.cons Tw.cv_str .nil))) (.cons (Tw.cv_tup ?q1_22 ?q1_22e (.cons Tw.cv_int (.cons Tw.cv_str .nil))) (.cons (Tw.cv_tup ?q1_24 ?q1_24e (.cons Tw.cv_int (.cons Tw.cv_str .nil))) (.cons (Tw.cv_tup ?q1_26 ?q1_26e (.cons Tw.cv_int (.cons Tw.cv_str .nil))) .nil)))))))))))))))⟩ : Law.Facts _ mg)) hmg
    (case a0 => k_is); (case l0 => k_is); (case c0 => k_is); (case k0 => k_is); (case a1 => k_is); (case l1 => k_is); (case c1 => k_is); (case k1 => k_is); (case a2 => k_is); (case l2 => k_is); (case c2 => k_is); (case k2 => k_is); (case a3 => k_is); (case l3 => k_is); (case c3 => k_is); (case k3 => k_is); (case a4 => k_is); (case l4 => k_is); (case c4 => k_is); (case k4 => k_is); (case a5 => k_is); (case l5 => k_is); (case c5 => k_is); (case k5 => k_is); (case a6 => k_is); (case l6 => k_is); (case c6 => k_is); (case k6 => k_is); (case a7 => k_is); (case l7 => k_is); (case c7 => k_is); (case k7 => k_is); (case a8 => k_is); (case l8 => k_is); (case c8 => k_is); (case k8 => k_is); (case a9 => k_is); (case l9 => k_is); (case c9 => k_is); (case k9 => k_is); (case a10 => k_is); (case l10 => k_is); (case c10 => k_is); (case k10 => k_is); (case a11 => k_is); (case l11 => k_is); (case c11 => k_is); (case k11 => k_is); (case a12 => k_is); (case l12 => k_is); (case c12 => k_is); (case k12 => k_is); (case a13 => k_is); (case l13 => k_is); (case c13 => k_is); (case k13 => k_is); (case a14 => k_is); (case l14 => k_is); (case c14 => k_is); (case k14 => k_is); (case a15 => k_is); (case l15 => k_is); (case c15 => k_is); (case k15 => k_is); (case a16 => k_is); (case l16 => k_is); (case c16 => k_is); (case k16 => k_is); (case a17 => k_is); (case l17 => k_is); (case c17 => k_is); (case k17 => k_is); (case a18 => k_is); (case l18 => k_is); (case c18 => k_is); (case k18 => k_is); (case a19 => k_is); (case l19 => k_is); (case c19 => k_is); (case k19 => k_is); (case a20 => k_is); (case l20 => k_is); (case c20 => k_is); (case k20 => k_is); (case a21 => k_is); (case l21 => k_is); (case c21 => k_is); (case k21 => k_is); (case a22 => k_is); (case l22 => k_is); (case c22 => k_is); (case k22 => k_is); (case a23 => k_is); (case l23 => k_is); (case c23 => k_is); (case k23 => k_is); (case z0 => k_is); (case z1 => k_is); (case z2 => k_is); (case z3 => k_is); (case z4 => k_is); (case z5 => k_is); (case z6 => k_is); (case z7 => k_is); (case z8 => k_is); (case z9 => k_is); (case z10 => k_is); (case z11 => k_is); (case z12 => k_is); (case z13 => k_is); (case m0 => k_is); (case m1 => k_is); (case q1_0 => k_is); (case q1_0e => rfl); (case q1_2 => k_is); (case q1_2e => rfl); (case q1_4 => k_is); (case q1_4e => rfl); (case q1_6 => k_is); (case q1_6e => rfl); (case q1_8 => k_is); (case q1_8e => rfl); (case q1_10 => k_is); (case q1_10e => rfl); (case q1_12 => k_is); (case q1_12e => rfl); (case q1_14 => k_is); (case q1_14e => rfl); (case q1_16 => k_is); (case q1_16e => rfl); (case q1_18 => k_is); (case q1_18e => rfl); (case q1_20 => k_is); (case q1_20e => rfl); (case q1_22 => k_is); (case q1_22e => rfl); (case q1_24 => k_is); (case q1_24e => rfl); (case q1_26 => k_is); (case q1_26e => rfl)

