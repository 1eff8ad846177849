import PyProof.Rows.All
import Wide.All
import OpenK.AllK
import Wide.FinOn
import HandS.ForMost
import HandS.IsInst
import KE.KTupSum
import HandS.ExcOwn
import HandS.Zip
import KE.GoesMore
import HandS.Wide
import HandS.Gcd
import KE.SortData
import HandS.SortKw
import HandS.ExcValue
import PyProof.SumAny
import PyProof.WalksMore
import HandS.Text
import HandS.Iter
import PySem.Challenge.RW_oncecounted_k86_count_classes
section
set_option Elab.async false
set_option linter.all false
set_option maxRecDepth 100000
/-! DL1: data as trees, what stands for them in the abstract heap, slots, frames. -/
namespace DL
open PySem L2

/-- frozen data -/
inductive D where
  | non | bl (b : Bool) | int (i : Int) | str (s : Str)
  | tup (xs : List D) | lst (xs : List D)
  | dK (ks : List Key) (xs : List D) | dT (ks : List (List Key)) (xs : List D)
deriving Inhabited

mutual
def Den (K : PySem.W.Frag) (G : Hp) : D → V → Prop
  | .non, v => v = .non
  | .bl b, v => v = .bl b
  | .int i, v => v = .int i
  | .str s, v => v = .str s
  | .tup ds, v => ∃ a vs, v = .ref a ∧ SqT K G a vs ∧ Dens K G ds vs
  | .lst ds, v => ∃ a vs, v = .ref a ∧ SqL K G a vs ∧ Dens K G ds vs
  | .dK ks ds, v => ∃ a vs, v = .ref a ∧ G a = some (.dK (ks.zip vs)) ∧ ks.length = ds.length ∧ Dens K G ds vs
  | .dT ks ds, v => ∃ a vs, v = .ref a ∧ G a = some (.dT (ks.zip vs)) ∧ ks.length = ds.length ∧ Dens K G ds vs
def Dens (K : PySem.W.Frag) (G : Hp) : List D → List V → Prop
  | [], vs => vs = []
  | d :: ds, vs => ∃ v r, vs = v :: r ∧ Den K G d v ∧ Dens K G ds r
end

theorem sqT_mono {K : PySem.W.Frag} {H H' : Hp} {a : Addr} {xs : List V} (e : Same H H') (h : SqT K H a xs) : SqT K H' a xs := by
  rcases h with (h | ⟨o, h⟩) | h
  · exact .inl (.inl (e _ _ h))
  · exact .inl (.inr ⟨o, e _ _ h⟩)
  · exact .inr h

mutual
theorem Den.mono {K : PySem.W.Frag} {G G' : Hp} (e : Same G G') : ∀ (d : D) (v : V), Den K G d v → Den K G' d v
  | .non, v, h => by simpa [Den] using h
  | .bl b, v, h => by simpa [Den] using h
  | .int i, v, h => by simpa [Den] using h
  | .str s, v, h => by simpa [Den] using h
  | .tup ds, v, h => by
    simp only [Den] at h ⊢
    obtain ⟨a, vs, h1, h2, h3⟩ := h
    exact ⟨a, vs, h1, sqT_mono e h2, Dens.mono e ds vs h3⟩
  | .lst ds, v, h => by
    simp only [Den] at h ⊢
    obtain ⟨a, vs, h1, h2, h3⟩ := h
    exact ⟨a, vs, h1, e.seq h2, Dens.mono e ds vs h3⟩
  | .dK ks ds, v, h => by
    simp only [Den] at h ⊢
    obtain ⟨a, vs, h1, h2, h3, h4⟩ := h
    exact ⟨a, vs, h1, e _ _ h2, h3, Dens.mono e ds vs h4⟩
  | .dT ks ds, v, h => by
    simp only [Den] at h ⊢
    obtain ⟨a, vs, h1, h2, h3, h4⟩ := h
    exact ⟨a, vs, h1, e _ _ h2, h3, Dens.mono e ds vs h4⟩
theorem Dens.mono {K : PySem.W.Frag} {G G' : Hp} (e : Same G G') : ∀ (ds : List D) (vs : List V), Dens K G ds vs → Dens K G' ds vs
  | [], vs, h => by simpa [Dens] using h
  | d :: ds, vs, h => by
    simp only [Dens] at h ⊢
    obtain ⟨v, r, h1, h2, h3⟩ := h
    exact ⟨v, r, h1, Den.mono e d v h2, Dens.mono e ds r h3⟩
end

theorem Dens.length {K : PySem.W.Frag} {G : Hp} : ∀ {ds : List D} {vs : List V}, Dens K G ds vs → vs.length = ds.length
  | [], vs, h => by simp [Dens] at h; subst h; rfl
  | d :: ds, vs, h => by
    simp only [Dens] at h
    obtain ⟨v, r, rfl, h2, h3⟩ := h
    simp [Dens.length h3]
theorem Dens.get {K : PySem.W.Frag} {G : Hp} : ∀ {ds : List D} {vs : List V} {i : Nat} {d : D}, Dens K G ds vs → ds[i]? = some d → ∃ v, vs[i]? = some v ∧ Den K G d v
  | [], vs, i, d, h, e => by simp at e
  | c :: ds, vs, i, d, h, e => by
    simp only [Dens] at h
    obtain ⟨v, r, rfl, h2, h3⟩ := h
    cases i with
    | zero => simp at e; subst e; exact ⟨v, rfl, h2⟩
    | succ i => simpa using Dens.get (i := i) h3 (by simpa using e)
theorem Dens.append {K : PySem.W.Frag} {G : Hp} : ∀ {ds es : List D} {vs ws : List V}, Dens K G ds vs → Dens K G es ws → Dens K G (ds ++ es) (vs ++ ws)
  | [], es, vs, ws, h, h' => by simp only [Dens] at h; subst h; exact h'
  | c :: ds, es, vs, ws, h, h' => by
    simp only [Dens] at h
    obtain ⟨v, r, rfl, h2, h3⟩ := h
    exact ⟨v, r ++ ws, rfl, h2, Dens.append h3 h'⟩
theorem Dens.take {K : PySem.W.Frag} {G : Hp} : ∀ {ds : List D} {vs : List V} (n : Nat), Dens K G ds vs → Dens K G (ds.take n) (vs.take n)
  | ds, vs, 0, h => by simp [Dens]
  | [], vs, n + 1, h => by simp only [Dens] at h; subst h; simp [Dens]
  | c :: ds, vs, n + 1, h => by
    simp only [Dens] at h
    obtain ⟨v, r, rfl, h2, h3⟩ := h
    exact ⟨v, r.take n, rfl, h2, Dens.take n h3⟩
theorem Dens.drop {K : PySem.W.Frag} {G : Hp} : ∀ {ds : List D} {vs : List V} (n : Nat), Dens K G ds vs → Dens K G (ds.drop n) (vs.drop n)
  | ds, vs, 0, h => h
  | [], vs, n + 1, h => by simp only [Dens] at h; subst h; simp [Dens]
  | c :: ds, vs, n + 1, h => by
    simp only [Dens] at h
    obtain ⟨v, r, rfl, h2, h3⟩ := h
    exact Dens.drop n h3
theorem Dens.set {K : PySem.W.Frag} {G : Hp} {d : D} {v : V} (hd : Den K G d v) : ∀ {ds : List D} {vs : List V} (n : Nat), Dens K G ds vs → Dens K G (ds.set n d) (vs.set n v)
  | [], vs, n, h => by simp only [Dens] at h; subst h; simp [Dens]
  | c :: ds, vs, 0, h => by
    simp only [Dens] at h
    obtain ⟨v', r, rfl, h2, h3⟩ := h
    exact ⟨v, r, rfl, hd, h3⟩
  | c :: ds, vs, n + 1, h => by
    simp only [Dens] at h
    obtain ⟨v', r, rfl, h2, h3⟩ := h
    exact ⟨v', r.set n v, rfl, h2, Dens.set hd n h3⟩
theorem Dens.reverse {K : PySem.W.Frag} {G : Hp} : ∀ {ds : List D} {vs : List V}, Dens K G ds vs → Dens K G ds.reverse vs.reverse
  | [], vs, h => by simp only [Dens] at h; subst h; simp [Dens]
  | c :: ds, vs, h => by
    simp only [Dens] at h
    obtain ⟨v, r, rfl, h2, h3⟩ := h
    rw [List.reverse_cons, List.reverse_cons]
    exact (Dens.reverse h3).append ⟨v, [], rfl, h2, by simp [Dens]⟩
theorem Dens.eraseIdx {K : PySem.W.Frag} {G : Hp} : ∀ {ds : List D} {vs : List V} (n : Nat), Dens K G ds vs → Dens K G (ds.eraseIdx n) (vs.eraseIdx n)
  | [], vs, n, h => by simp only [Dens] at h; subst h; simp [Dens]
  | c :: ds, vs, 0, h => by
    simp only [Dens] at h
    obtain ⟨v', r, rfl, h2, h3⟩ := h
    exact h3
  | c :: ds, vs, n + 1, h => by
    simp only [Dens] at h
    obtain ⟨v', r, rfl, h2, h3⟩ := h
    exact ⟨v', r.eraseIdx n, rfl, h2, Dens.eraseIdx n h3⟩

/-! ### owned trees -/
inductive O where
  | fz (d : D) | ol (os : List O) | oK (ks : List Key) (os : List O) | oT (ks : List (List Key)) (os : List O)
  | oi (C : Addr) (ns : List Str) (os : List O)
deriving Inhabited

mutual
def Ow (K : PySem.W.Frag) (G H : Hp) : O → V → List Addr → Prop
  | .fz d, v, F => F = [] ∧ Den K G d v
  | .ol os, v, F => ∃ a vs F', v = .ref a ∧ F = a :: F' ∧ H a = some (.lst vs) ∧ Ows K G H os vs F'
  | .oK ks os, v, F => ∃ a vs F', v = .ref a ∧ F = a :: F' ∧ H a = some (.dK (ks.zip vs)) ∧ ks.length = os.length ∧ Ows K G H os vs F'
  | .oT ks os, v, F => ∃ a vs F', v = .ref a ∧ F = a :: F' ∧ H a = some (.dT (ks.zip vs)) ∧ ks.length = os.length ∧ Ows K G H os vs F'
  | .oi C ns os, v, F => ∃ a dx vs F', v = .ref a ∧ F = a :: dx :: F' ∧ H a = some (.ins C dx (ns.zip vs)) ∧ H dx = some (.own a) ∧ ns.length = os.length ∧ Ows K G H os vs F'
def Ows (K : PySem.W.Frag) (G H : Hp) : List O → List V → List Addr → Prop
  | [], vs, F => vs = [] ∧ F = []
  | o :: os, vs, F => ∃ v r F1 F2, vs = v :: r ∧ F = F1 ++ F2 ∧ Ow K G H o v F1 ∧ Ows K G H os r F2
end

mutual
/-- an owned tree stands wherever its own addresses do and the frozen part has grown -/
theorem Ow.frame {K : PySem.W.Frag} {G H G' H' : Hp} (e : Same G G') : ∀ (o : O) (v : V) (F : List Addr), Ow K G H o v F → (∀ a ∈ F, H' a = H a) → Ow K G' H' o v F
  | .fz d, v, F, h, k => by
    simp only [Ow] at h ⊢
    exact ⟨h.1, Den.mono e d v h.2⟩
  | .ol os, v, F, h, k => by
    simp only [Ow] at h ⊢
    obtain ⟨a, vs, F', h1, rfl, h2, h3⟩ := h
    exact ⟨a, vs, F', h1, rfl, by rw [k a List.mem_cons_self]; exact h2, Ows.frame e os vs F' h3 fun b hb => k b (List.mem_cons_of_mem _ hb)⟩
  | .oK ks os, v, F, h, k => by
    simp only [Ow] at h ⊢
    obtain ⟨a, vs, F', h1, rfl, h2, h3, h4⟩ := h
    exact ⟨a, vs, F', h1, rfl, by rw [k a List.mem_cons_self]; exact h2, h3, Ows.frame e os vs F' h4 fun b hb => k b (List.mem_cons_of_mem _ hb)⟩
  | .oT ks os, v, F, h, k => by
    simp only [Ow] at h ⊢
    obtain ⟨a, vs, F', h1, rfl, h2, h3, h4⟩ := h
    exact ⟨a, vs, F', h1, rfl, by rw [k a List.mem_cons_self]; exact h2, h3, Ows.frame e os vs F' h4 fun b hb => k b (List.mem_cons_of_mem _ hb)⟩
  | .oi C ns os, v, F, h, k => by
    simp only [Ow] at h ⊢
    obtain ⟨a, dx, vs, F', h1, rfl, h2, h3, h4, h5⟩ := h
    exact ⟨a, dx, vs, F', h1, rfl, by rw [k a List.mem_cons_self]; exact h2, by rw [k dx (List.mem_cons_of_mem _ List.mem_cons_self)]; exact h3, h4, Ows.frame e os vs F' h5 fun b hb => k b (List.mem_cons_of_mem _ (List.mem_cons_of_mem _ hb))⟩
theorem Ows.frame {K : PySem.W.Frag} {G H G' H' : Hp} (e : Same G G') : ∀ (os : List O) (vs : List V) (F : List Addr), Ows K G H os vs F → (∀ a ∈ F, H' a = H a) → Ows K G' H' os vs F
  | [], vs, F, h, k => by simpa [Ows] using h
  | o :: os, vs, F, h, k => by
    simp only [Ows] at h ⊢
    obtain ⟨v, r, F1, F2, h1, rfl, h2, h3⟩ := h
    exact ⟨v, r, F1, F2, h1, rfl, Ow.frame e o v F1 h2 fun b hb => k b (List.mem_append_left _ hb), Ows.frame e os r F2 h3 fun b hb => k b (List.mem_append_right _ hb)⟩
end
mutual
theorem Ow.dom {K : PySem.W.Frag} {G H : Hp} : ∀ (o : O) (v : V) (F : List Addr), Ow K G H o v F → ∀ a ∈ F, H a ≠ none
  | .fz d, v, F, h => by simp only [Ow] at h; rw [h.1]; intro a ha; cases ha
  | .ol os, v, F, h => by
    simp only [Ow] at h
    obtain ⟨a, vs, F', h1, rfl, h2, h3⟩ := h
    intro b hb
    rcases List.mem_cons.mp hb with rfl | hb
    · rw [h2]; exact fun q => nomatch q
    · exact Ows.dom os vs F' h3 b hb
  | .oK ks os, v, F, h => by
    simp only [Ow] at h
    obtain ⟨a, vs, F', h1, rfl, h2, h3, h4⟩ := h
    intro b hb
    rcases List.mem_cons.mp hb with rfl | hb
    · rw [h2]; exact fun q => nomatch q
    · exact Ows.dom os vs F' h4 b hb
  | .oT ks os, v, F, h => by
    simp only [Ow] at h
    obtain ⟨a, vs, F', h1, rfl, h2, h3, h4⟩ := h
    intro b hb
    rcases List.mem_cons.mp hb with rfl | hb
    · rw [h2]; exact fun q => nomatch q
    · exact Ows.dom os vs F' h4 b hb
  | .oi C ns os, v, F, h => by
    simp only [Ow] at h
    obtain ⟨a, dx, vs, F', h1, rfl, h2, h3, h4, h5⟩ := h
    intro b hb
    rcases List.mem_cons.mp hb with rfl | hb
    · rw [h2]; exact fun q => nomatch q
    · rcases List.mem_cons.mp hb with rfl | hb
      · rw [h3]; exact fun q => nomatch q
      · exact Ows.dom os vs F' h5 b hb
theorem Ows.dom {K : PySem.W.Frag} {G H : Hp} : ∀ (os : List O) (vs : List V) (F : List Addr), Ows K G H os vs F → ∀ a ∈ F, H a ≠ none
  | [], vs, F, h => by simp only [Ows] at h; rw [h.2]; intro a ha; cases ha
  | o :: os, vs, F, h => by
    simp only [Ows] at h
    obtain ⟨v, r, F1, F2, h1, rfl, h2, h3⟩ := h
    intro b hb
    rcases List.mem_append.mp hb with hb | hb
    · exact Ow.dom o v F1 h2 b hb
    · exact Ows.dom os r F2 h3 b hb
end
theorem Ows.length {K : PySem.W.Frag} {G H : Hp} : ∀ {os : List O} {vs : List V} {F : List Addr}, Ows K G H os vs F → vs.length = os.length
  | [], vs, F, h => by simp [Ows] at h; rw [h.1]; rfl
  | o :: os, vs, F, h => by
    simp only [Ows] at h
    obtain ⟨v, r, F1, F2, rfl, rfl, h2, h3⟩ := h
    simp [Ows.length h3]
/-! the frozen data of a tree; an instance has none -/
mutual
def O.d : O → Option D
  | .fz d => some d
  | .ol os => (O.ds os).map .lst
  | .oK ks os => (O.ds os).map (.dK ks)
  | .oT ks os => (O.ds os).map (.dT ks)
  | .oi _ _ _ => none
def O.ds : List O → Option (List D)
  | [] => some []
  | o :: os => (O.d o).bind fun d => (O.ds os).map (d :: ·)
end
/-- the frozen part with a list of addresses more, as they stand -/
def icy (G H : Hp) (F : List Addr) : Hp := fun b => if b ∈ F then H b else G b
theorem icy_in {G H : Hp} {F : List Addr} {b : Addr} (h : b ∈ F) : icy G H F b = H b := if_pos h
theorem icy_out {G H : Hp} {F : List Addr} {b : Addr} (h : b ∉ F) : icy G H F b = G b := if_neg h
theorem icy_same {G H : Hp} {F : List Addr} (h : ∀ a ∈ F, G a = none) : Same G (icy G H F) := fun b o e => by
  rw [icy_out fun z => by rw [h b z] at e; cases e]
  exact e
theorem icy_sub {G H : Hp} {F : List Addr} (h : Same G H) : Same (icy G H F) H := fun b o e => by
  by_cases z : b ∈ F
  · rw [icy_in z] at e; exact e
  · rw [icy_out z] at e; exact h b o e
theorem O.ds_length : ∀ {os : List O} {ds : List D}, O.ds os = some ds → ds.length = os.length
  | [], ds, h => by simp [O.ds] at h; subst h; rfl
  | o :: os, ds, h => by
    simp only [O.ds, Option.bind_eq_some_iff, Option.map_eq_some_iff] at h
    obtain ⟨d, h1, r, h2, rfl⟩ := h
    simp [O.ds_length h2]
mutual
theorem Ow.icy {K : PySem.W.Frag} {G H : Hp} {F0 : List Addr} (gn : ∀ a ∈ F0, G a = none) : ∀ (o : O) (v : V) (F : List Addr) (d : D), (∀ a ∈ F, a ∈ F0) → Ow K G H o v F → o.d = some d → Den K (DL.icy G H F0) d v
  | .fz d', v, F, d, hF, h, e => by
    simp only [Ow] at h
    simp only [O.d, Option.some.injEq] at e
    subst e
    exact Den.mono (icy_same gn) d' v h.2
  | .ol os, v, F, d, hF, h, e => by
    simp only [Ow] at h
    simp only [O.d, Option.map_eq_some_iff] at e
    obtain ⟨ds, e, rfl⟩ := e
    obtain ⟨a, vs, F', h1, rfl, h2, h3⟩ := h
    simp only [Den]
    exact ⟨a, vs, h1, SqL.of (by rw [icy_in (hF a List.mem_cons_self)]; exact h2), Ows.icy gn os vs F' ds (fun b hb => hF b (List.mem_cons_of_mem _ hb)) h3 e⟩
  | .oK ks os, v, F, d, hF, h, e => by
    simp only [Ow] at h
    simp only [O.d, Option.map_eq_some_iff] at e
    obtain ⟨ds, e, rfl⟩ := e
    obtain ⟨a, vs, F', h1, rfl, h2, h3, h4⟩ := h
    simp only [Den]
    exact ⟨a, vs, h1, (by rw [icy_in (hF a List.mem_cons_self)]; exact h2), by rw [O.ds_length e]; exact h3, Ows.icy gn os vs F' ds (fun b hb => hF b (List.mem_cons_of_mem _ hb)) h4 e⟩
  | .oT ks os, v, F, d, hF, h, e => by
    simp only [Ow] at h
    simp only [O.d, Option.map_eq_some_iff] at e
    obtain ⟨ds, e, rfl⟩ := e
    obtain ⟨a, vs, F', h1, rfl, h2, h3, h4⟩ := h
    simp only [Den]
    exact ⟨a, vs, h1, (by rw [icy_in (hF a List.mem_cons_self)]; exact h2), by rw [O.ds_length e]; exact h3, Ows.icy gn os vs F' ds (fun b hb => hF b (List.mem_cons_of_mem _ hb)) h4 e⟩
  | .oi C ns os, v, F, d, hF, h, e => by simp [O.d] at e
theorem Ows.icy {K : PySem.W.Frag} {G H : Hp} {F0 : List Addr} (gn : ∀ a ∈ F0, G a = none) : ∀ (os : List O) (vs : List V) (F : List Addr) (ds : List D), (∀ a ∈ F, a ∈ F0) → Ows K G H os vs F → O.ds os = some ds → Dens K (DL.icy G H F0) ds vs
  | [], vs, F, ds, hF, h, e => by
    simp only [Ows] at h
    simp only [O.ds, Option.some.injEq] at e
    subst e
    simpa [Dens] using h.1
  | o :: os, vs, F, ds, hF, h, e => by
    simp only [Ows] at h
    simp only [O.ds, Option.bind_eq_some_iff, Option.map_eq_some_iff] at e
    obtain ⟨d, e1, r, e2, rfl⟩ := e
    obtain ⟨v, rv, F1, F2, rfl, rfl, h2, h3⟩ := h
    exact ⟨v, rv, rfl, Ow.icy gn o v F1 d (fun b hb => hF b (List.mem_append_left _ hb)) h2 e1, Ows.icy gn os rv F2 r (fun b hb => hF b (List.mem_append_right _ hb)) h3 e2⟩
end
end DL
end
section
set_option Elab.async false
set_option linter.all false
set_option maxRecDepth 100000
/-! DL2: slots, the state relation, frames between states, results. -/
namespace DL
open PySem L2

inductive Sl where
  | no | fz (d : D) | ow (t : Option Nat) (o : O)
deriving Inhabited
abbrev Ga := List Sl

def SlotR (K : PySem.W.Frag) (ρ : List V) (G H : Hp) : Sl → Option V → List Addr → Prop
  | .no, _, F => F = []
  | .fz d, x, F => F = [] ∧ ∃ v, x = some v ∧ Den K G d v
  | .ow t o, x, F => ∃ v, x = some v ∧ Ow K G H o v F ∧ ∀ k, t = some k → ρ[k]? = some v
def SlotRs (K : PySem.W.Frag) (ρ : List V) (G H : Hp) : Ga → St → List Addr → Prop
  | [], σ, F => σ = [] ∧ F = []
  | s :: Γ, σ, F => ∃ x r F1 F2, σ = x :: r ∧ F = F1 ++ F2 ∧ SlotR K ρ G H s x F1 ∧ SlotRs K ρ G H Γ r F2

section
variable {K : PySem.W.Frag} {ρ : List V} {G H G' H' G1 H1 G2 H2 : Hp} {F F' F1 F2 : List Addr}
theorem SlotR.frame (e : Same G G') {s : Sl} {x : Option V} (h : SlotR K ρ G H s x F) (k : ∀ a ∈ F, H' a = H a) : SlotR K ρ G' H' s x F := by
  cases s with
  | no => exact h
  | fz d => obtain ⟨h1, v, h2, h3⟩ := h; exact ⟨h1, v, h2, Den.mono e d v h3⟩
  | ow t o => obtain ⟨v, h1, h2, h3⟩ := h; exact ⟨v, h1, Ow.frame e o v F h2 k, h3⟩
theorem SlotR.dom {s : Sl} {x : Option V} (h : SlotR K ρ G H s x F) : ∀ a ∈ F, H a ≠ none := by
  cases s with
  | no => rw [show F = [] from h]; intro a ha; cases ha
  | fz d => rw [h.1]; intro a ha; cases ha
  | ow t o => obtain ⟨v, h1, h2, h3⟩ := h; exact Ow.dom o v F h2
theorem SlotRs.frame (e : Same G G') : ∀ {Γ : Ga} {σ : St} {F : List Addr}, SlotRs K ρ G H Γ σ F → (∀ a ∈ F, H' a = H a) → SlotRs K ρ G' H' Γ σ F
  | [], σ, F, h, k => h
  | s :: Γ, σ, F, h, k => by
    obtain ⟨x, r, F1, F2, h1, rfl, h2, h3⟩ := h
    exact ⟨x, r, F1, F2, h1, rfl, h2.frame e fun a ha => k a (List.mem_append_left _ ha), SlotRs.frame e h3 fun a ha => k a (List.mem_append_right _ ha)⟩
theorem SlotRs.dom : ∀ {Γ : Ga} {σ : St} {F : List Addr}, SlotRs K ρ G H Γ σ F → ∀ a ∈ F, H a ≠ none
  | [], σ, F, h => by rw [h.2]; intro a ha; cases ha
  | s :: Γ, σ, F, h => by
    obtain ⟨x, r, F1, F2, h1, rfl, h2, h3⟩ := h
    intro a ha
    rcases List.mem_append.mp ha with ha | ha
    · exact h2.dom a ha
    · exact SlotRs.dom h3 a ha
theorem SlotRs.length : ∀ {Γ : Ga} {σ : St} {F : List Addr}, SlotRs K ρ G H Γ σ F → σ.length = Γ.length
  | [], σ, F, h => by rw [h.1]; rfl
  | s :: Γ, σ, F, h => by
    obtain ⟨x, r, F1, F2, rfl, rfl, h2, h3⟩ := h
    simp [SlotRs.length h3]
/-- one slot, and what may stand in its place -/
theorem SlotRs.at : ∀ {Γ : Ga} {σ : St} {F : List Addr} {i : Nat} {s : Sl}, SlotRs K ρ G H Γ σ F → Γ[i]? = some s →
    ∃ x A B C, σ[i]? = some x ∧ F = A ++ B ++ C ∧ SlotR K ρ G H s x B ∧
      ∀ {G' H' : Hp} {s' : Sl} {x' : Option V} {B' : List Addr}, Same G G' → (∀ a ∈ A ++ C, H' a = H a) → SlotR K ρ G' H' s' x' B' → SlotRs K ρ G' H' (Γ.set i s') (σ.set i x') (A ++ B' ++ C)
  | [], σ, F, i, s, h, e => by simp at e
  | s0 :: Γ, σ, F, 0, s, h, e => by
    obtain ⟨x, r, F1, F2, rfl, rfl, h2, h3⟩ := h
    simp at e; subst e
    exact ⟨x, [], F1, F2, rfl, by simp, h2, fun {G' H' s' x' B'} e k q => ⟨x', r, B', F2, rfl, by simp, q, SlotRs.frame e h3 fun a ha => k a (by simp [ha])⟩⟩
  | s0 :: Γ, σ, F, i + 1, s, h, e => by
    obtain ⟨x, r, F1, F2, rfl, rfl, h2, h3⟩ := h
    obtain ⟨y, A, B, C, g1, rfl, g3, g4⟩ := SlotRs.at (i := i) (s := s) h3 (by simpa using e)
    refine ⟨y, F1 ++ A, B, C, by simpa using g1, by simp, g3, fun {G' H' s' x' B'} e k q => ?_⟩
    exact ⟨x, r.set i x', F1, A ++ B' ++ C, rfl, by simp, h2.frame e fun a ha => k a (by simp [ha]), g4 e (fun a ha => k a (by simp at ha ⊢; rcases ha with ha | ha <;> simp [ha])) q⟩

structure R (K : PySem.W.Frag) (ρ : List V) (G H : Hp) (F : List Addr) (σ : St) (Γ : Ga) : Prop where
  sub : Same G H
  sl : SlotRs K ρ G H Γ σ F
  nd : F.Nodup
  gn : ∀ a ∈ F, G a = none

/-- from one state to a later one: what is not owned stands -/
structure Fr (G H : Hp) (F : List Addr) (G' H' : Hp) (F' : List Addr) : Prop where
  g : Same G G'
  h : ∀ b, H b ≠ none → b ∉ F → H' b = H b ∧ G' b = G b
  f : ∀ a ∈ F', a ∈ F ∨ H a = none
  d : ∀ b, H b ≠ none → H' b ≠ none
theorem Fr.refl : Fr G H F G H F := ⟨fun _ _ h => h, fun _ _ _ => ⟨rfl, rfl⟩, fun a h => .inl h, fun _ h => h⟩
theorem Fr.trans {G'' H'' : Hp} {F'' : List Addr} (a : Fr G H F G' H' F') (b : Fr G' H' F' G'' H'' F'') : Fr G H F G'' H'' F'' where
  g := Same.trans a.g b.g
  h := fun c n hc => by
    obtain ⟨e1, e2⟩ := a.h c n hc
    have n' : H' c ≠ none := by rw [e1]; exact n
    have hc' : c ∉ F' := fun z => (a.f c z).elim hc n
    obtain ⟨e3, e4⟩ := b.h c n' hc'
    exact ⟨e3.trans e1, e4.trans e2⟩
  f := fun c z => by
    rcases b.f c z with z | z
    · exact a.f c z
    · by_cases q : H c = none
      · exact .inr q
      · exact absurd z (a.d c q)
  d := fun c n => b.d c (a.d c n)
theorem Fr.mono (a : Fr G H F G' H' F') (h1 : ∀ x ∈ F, x ∈ F1) (h2 : ∀ x ∈ F2, x ∈ F') : Fr G H F1 G' H' F2 :=
  ⟨a.g, fun b n hb => a.h b n fun z => hb (h1 b z), fun x hx => (a.f x (h2 x hx)).imp (h1 x) id, a.d⟩
/-- only new things, some of them frozen -/
structure Gr (G H G' H' : Hp) : Prop where
  g : Same G G'
  h : ∀ b, H b ≠ none → H' b = H b ∧ G' b = G b
  s : Same G' H'
theorem Gr.refl (h : Same G H) : Gr G H G H := ⟨fun _ _ h => h, fun _ _ => ⟨rfl, rfl⟩, h⟩
theorem Gr.trans {G'' H'' : Hp} (a : Gr G H G' H') (b : Gr G' H' G'' H'') : Gr G H G'' H'' where
  g := Same.trans a.g b.g
  h := fun c n => by
    obtain ⟨e1, e2⟩ := a.h c n
    obtain ⟨e3, e4⟩ := b.h c (by rw [e1]; exact n)
    exact ⟨e3.trans e1, e4.trans e2⟩
  s := b.s
theorem Gr.fr (a : Gr G H G' H') : Fr G H F G' H' F := ⟨a.g, fun b n _ => a.h b n, fun _ h => .inl h, fun b n => by rw [(a.h b n).1]; exact n⟩
/-- a new frozen object -/
theorem Gr.new {p : Addr} {o : HO} (h : Same G H) (n : H p = none) : Gr G H (upd G p o) (upd H p o) where
  g := fun b u e => by rw [upd_ne (ne_of_none (h _ _ e) n)]; exact e
  h := fun b m => by
    have : b ≠ p := fun z => m (by rw [z]; exact n)
    exact ⟨upd_ne this, upd_ne this⟩
  s := fun b u e => by
    by_cases z : b = p
    · subst z; rw [upd_same] at e ⊢; exact e
    · rw [upd_ne z] at e ⊢; exact h _ _ e
/-- a new object that is nobody's -/
theorem Gr.lost {p : Addr} {o : HO} (h : Same G H) (n : H p = none) : Gr G H G (upd H p o) where
  g := fun _ _ h => h
  h := fun b m => by
    have : b ≠ p := fun z => m (by rw [z]; exact n)
    exact ⟨upd_ne this, rfl⟩
  s := fun b u e => by rw [upd_ne (ne_of_none (h _ _ e) n)]; exact h _ _ e
theorem R.gr {σ : St} {Γ : Ga} (r : R K ρ G H F σ Γ) (a : Gr G H G' H') : R K ρ G' H' F σ Γ where
  sub := a.s
  sl := r.sl.frame a.g fun x hx => (a.h x (r.sl.dom x hx)).1
  nd := r.nd
  gn := fun x hx => by rw [(a.h x (r.sl.dom x hx)).2]; exact r.gn x hx
theorem R.len {σ : St} {Γ : Ga} (r : R K ρ G H F σ Γ) : σ.length = Γ.length := r.sl.length
theorem R.fz {σ : St} {Γ : Ga} {i : Nat} {d : D} (r : R K ρ G H F σ Γ) (h : Γ[i]? = some (.fz d)) : ∃ v, σ[i]? = some (some v) ∧ Den K G d v := by
  obtain ⟨x, A, B, C, g1, g2, ⟨g3, v, rfl, g5⟩, g4⟩ := r.sl.at h
  exact ⟨v, g1, g5⟩
/-- something frozen comes into a slot -/
theorem R.set {σ : St} {Γ : Ga} {i : Nat} {d : D} {v : V} (r : R K ρ G H F σ Γ) (hi : i < Γ.length) (h : Den K G d v) :
    ∃ F', (∀ a ∈ F', a ∈ F) ∧ R K ρ G H F' (σ.set i (some v)) (Γ.set i (.fz d)) := by
  obtain ⟨x, A, B, C, g1, g2, g3, g4⟩ := r.sl.at (List.getElem?_eq_getElem hi)
  refine ⟨A ++ [] ++ C, fun a ha => by rw [g2]; simp at ha ⊢; rcases ha with ha | ha <;> simp [ha], r.sub, g4 (Same.refl _) (fun _ _ => rfl) ⟨rfl, v, rfl, h⟩, ?_, fun a ha => r.gn a (by rw [g2]; simp at ha ⊢; rcases ha with ha | ha <;> simp [ha])⟩
  have := r.nd
  rw [g2] at this
  simp only [List.append_nil]
  rw [List.append_assoc, List.nodup_append] at this
  rw [List.nodup_append]
  obtain ⟨n1, n2, n3⟩ := this
  rw [List.nodup_append] at n2
  exact ⟨n1, n2.2.1, fun a ha b hb => n3 a ha b (List.mem_append_right _ hb)⟩
/-- a slot is forgotten -/
theorem R.drop {σ : St} {Γ : Ga} {i : Nat} {x : Option V} (r : R K ρ G H F σ Γ) (hi : i < Γ.length) :
    ∃ F', (∀ a ∈ F', a ∈ F) ∧ R K ρ G H F' (σ.set i x) (Γ.set i .no) := by
  obtain ⟨y, A, B, C, g1, g2, g3, g4⟩ := r.sl.at (List.getElem?_eq_getElem hi)
  refine ⟨A ++ [] ++ C, fun a ha => by rw [g2]; simp at ha ⊢; rcases ha with ha | ha <;> simp [ha], r.sub, g4 (Same.refl _) (fun _ _ => rfl) rfl, ?_, fun a ha => r.gn a (by rw [g2]; simp at ha ⊢; rcases ha with ha | ha <;> simp [ha])⟩
  have := r.nd
  rw [g2] at this
  simp only [List.append_nil]
  rw [List.append_assoc, List.nodup_append] at this
  rw [List.nodup_append]
  obtain ⟨n1, n2, n3⟩ := this
  rw [List.nodup_append] at n2
  exact ⟨n1, n2.2.1, fun a ha b hb => n3 a ha b (List.mem_append_right _ hb)⟩
/-- an owned tree is taken out of its slot -/
theorem R.take {σ : St} {Γ : Ga} {i : Nat} {t : Option Nat} {o : O} (r : R K ρ G H F σ Γ) (h : Γ[i]? = some (.ow t o)) :
    ∃ v Fi F', σ[i]? = some (some v) ∧ (∀ k, t = some k → ρ[k]? = some v) ∧ Ow K G H o v Fi ∧ R K ρ G H F' σ (Γ.set i .no) ∧ (Fi ++ F').Nodup ∧ (∀ a, a ∈ F ↔ a ∈ Fi ++ F') ∧ (∀ a ∈ Fi, G a = none) := by
  obtain ⟨y, A, B, C, g1, g2, ⟨v, rfl, g3, gt⟩, g4⟩ := r.sl.at h
  have hm : ∀ a, a ∈ F ↔ a ∈ B ++ (A ++ [] ++ C) := fun a => by
    rw [g2]; simp only [List.mem_append, List.append_nil]; grind
  have hn : (B ++ (A ++ [] ++ C)).Nodup := by
    have := r.nd
    rw [g2] at this
    have p : (A ++ B ++ C).Perm (B ++ (A ++ [] ++ C)) := by
      simp only [List.append_nil]
      rw [← List.append_assoc]
      exact List.Perm.append_right _ (List.perm_append_comm)
    exact p.nodup_iff.mp this
  have e2 : σ.set i (some v) = σ := by
    apply List.ext_getElem?
    intro j
    rw [List.getElem?_set]
    split
    · subst_vars
      split
      · rw [g1]
      · rename_i q; rw [List.getElem?_eq_none (by omega)]
    · rfl
  refine ⟨v, B, A ++ [] ++ C, g1, gt, g3, ⟨r.sub, ?_, (List.nodup_append.mp hn).2.1, fun a ha => r.gn a ((hm a).mpr (List.mem_append_right _ ha))⟩, hn, hm, fun a ha => r.gn a ((hm a).mpr (List.mem_append_left _ ha))⟩
  have := g4 (s' := .no) (x' := some v) (B' := []) (Same.refl _) (fun _ _ => rfl) rfl
  rw [e2] at this
  exact this
/-- an owned tree is put into a slot -/
theorem R.give {σ : St} {Γ : Ga} {i : Nat} {t : Option Nat} {o : O} {v : V} {Fi : List Addr} (r : R K ρ G H F σ Γ) (hi : Γ[i]? = some .no) (ht : ∀ k, t = some k → ρ[k]? = some v) (h : Ow K G H o v Fi) (nd : (Fi ++ F).Nodup) (gn : ∀ a ∈ Fi, G a = none) :
    ∃ F', (∀ a, a ∈ F' ↔ a ∈ Fi ++ F) ∧ R K ρ G H F' (σ.set i (some v)) (Γ.set i (.ow t o)) := by
  obtain ⟨y, A, B, C, g1, g2, g3, g4⟩ := r.sl.at hi
  have g3 : B = [] := g3
  subst g3
  have hm : ∀ a, a ∈ A ++ Fi ++ C ↔ a ∈ Fi ++ F := fun a => by
    rw [g2]; simp only [List.mem_append, List.append_nil]; grind
  have p : (A ++ Fi ++ C).Perm (Fi ++ F) := by
    rw [g2]
    simp only [List.append_nil]
    rw [← List.append_assoc]
    exact List.Perm.append_right _ (List.perm_append_comm)
  exact ⟨A ++ Fi ++ C, hm, r.sub, g4 (Same.refl _) (fun _ _ => rfl) ⟨v, rfl, h, ht⟩, p.nodup_iff.mpr nd, fun a ha => (List.mem_append.mp ((hm a).mp ha)).elim (gn a) (r.gn a)⟩
/-- a part that is framed -/
theorem Fr.frame (a : Fr G H F G' H' F') {Fi : List Addr} (dom : ∀ x ∈ Fi, H x ≠ none) (nd : (Fi ++ F).Nodup) (nd' : F'.Nodup) : (Fi ++ F').Nodup ∧ (∀ x ∈ Fi, H' x = H x ∧ G' x = G x) ∧ Fr G H (Fi ++ F) G' H' (Fi ++ F') := by
  have dis : ∀ x ∈ Fi, x ∉ F := fun x hx hf => (List.nodup_append.mp nd).2.2 x hx x hf rfl
  refine ⟨List.nodup_append.mpr ⟨(List.nodup_append.mp nd).1, nd', fun x hx y hy e => ?_⟩, fun x hx => a.h x (dom x hx) (dis x hx), a.g, fun b n hb => a.h b n fun z => hb (List.mem_append_right _ z), fun x hx => ?_, a.d⟩
  · subst e
    rcases a.f x hy with z | z
    · exact dis x hx z
    · exact dom x hx z
  · rcases List.mem_append.mp hx with z | z
    · exact .inl (List.mem_append_left _ z)
    · exact (a.f x z).imp (List.mem_append_right _) id
end

/-! ### results -/
/-- an error: its class and what it keeps -/
structure Ex where
  cls : Value
  args : List (Str × D)
inductive Res (α : Type) where
  | ok (a : α) (Γ : Ga) | ex (x : Ex) (Γ : Ga) | bad
def Res.bind {α β : Type} (r : Res α) (f : α → Ga → Res β) : Res β :=
  match r with
  | .ok a Γ => f a Γ
  | .ex x Γ => .ex x Γ
  | .bad => .bad
@[simp] theorem Res.bind_ok {α β : Type} (a : α) (Γ : Ga) (f : α → Ga → Res β) : (Res.ok a Γ).bind f = f a Γ := rfl
@[simp] theorem Res.bind_ex {α β : Type} (x : Ex) (Γ : Ga) (f : α → Ga → Res β) : (Res.ex x Γ : Res α).bind f = .ex x Γ := rfl
@[simp] theorem Res.bind_bad {α β : Type} (f : α → Ga → Res β) : (Res.bad : Res α).bind f = .bad := rfl
theorem Res.bind_assoc {α β γ : Type} (r : Res α) (f : α → Ga → Res β) (g : β → Ga → Res γ) : (r.bind f).bind g = r.bind fun a Γ => (f a Γ).bind g := by
  cases r <;> rfl
/-- the error's own dict -/
def XC (K : PySem.W.Frag) (G H : Hp) (x : Ex) (dd : Option Addr) : Prop :=
  match x.args with
  | [] => dd = none
  | as => ∃ dx fs, dd = some dx ∧ H dx = some (.xd fs) ∧ fs.map (·.1) = as.map (·.1) ∧ Dens K G (as.map (·.2)) (fs.map (·.2))
abbrev WX := Value → Option Addr → St → Hp → Prop
/-- how far an expression goes: true, it may change what is owned; false, it only makes new things -/
def Step (m : Bool) (G H : Hp) (F : List Addr) (G' H' : Hp) (F' : List Addr) : Prop :=
  match m with
  | true => Fr G H F G' H' F'
  | false => Gr G H G' H' ∧ ∀ a ∈ F', a ∈ F
theorem Step.refl {m : Bool} {G H : Hp} {F : List Addr} (s : Same G H) : Step m G H F G H F := by
  cases m with
  | true => exact Fr.refl
  | false => exact ⟨Gr.refl s, fun _ z => z⟩
theorem Step.trans {m : Bool} {G H G1 H1 G2 H2 : Hp} {F F1 F2 : List Addr} (a : Step m G H F G1 H1 F1) (b : Step m G1 H1 F1 G2 H2 F2) : Step m G H F G2 H2 F2 := by
  cases m with
  | true => exact Fr.trans a b
  | false => exact ⟨Gr.trans a.1 b.1, fun x z => a.2 x (b.2 x z)⟩
theorem Step.g {m : Bool} {G H G1 H1 : Hp} {F F1 : List Addr} (a : Step m G H F G1 H1 F1) : Same G G1 := by
  cases m with
  | true => exact Fr.g a
  | false => exact a.1.g
theorem Step.fr {m : Bool} {G H G1 H1 : Hp} {F F1 : List Addr} (a : Step m G H F G1 H1 F1) : Fr G H F G1 H1 F1 := by
  cases m with
  | true => exact a
  | false => exact a.1.fr.mono (fun _ z => z) a.2
theorem Gr.stepS {m : Bool} {G H G1 H1 : Hp} {F F' : List Addr} (a : Gr G H G1 H1) (h : ∀ x ∈ F', x ∈ F) : Step m G H F G1 H1 F' := by
  cases m with
  | true => exact a.fr.mono (fun _ z => z) h
  | false => exact ⟨a, h⟩
theorem Gr.step {m : Bool} {G H G1 H1 : Hp} {F : List Addr} (a : Gr G H G1 H1) : Step m G H F G1 H1 F := a.stepS fun _ z => z
/-- what is wanted behind a result, from a state on -/
def Aft (K : PySem.W.Frag) (m : Bool) (W : WX) (ρ : List V) (G H : Hp) (F : List Addr) (σ : L2.St) {α : Type} (r : Res α) (P : α → Ga → Hp → Hp → List Addr → Prop) : Prop :=
  match r with
  | .ok a Γ' => ∀ G' H' F', Step m G H F G' H' F' → R K ρ G' H' F' σ Γ' → P a Γ' G' H' F'
  | .ex x Γ' => ∀ dd G' H' F', Step m G H F G' H' F' → R K ρ G' H' F' σ Γ' → XC K G' H' x dd → W x.cls dd σ H'
  | .bad => False
section
variable {K : PySem.W.Frag} {m : Bool} {W : WX} {ρ : List V} {G H G' H' : Hp} {F F' : List Addr} {σ : L2.St} {α β : Type}
theorem Aft.step {r : Res α} {P : α → Ga → Hp → Hp → List Addr → Prop} (s : Step m G H F G' H' F') (h : Aft K m W ρ G H F σ r P) : Aft K m W ρ G' H' F' σ r P := by
  cases r with
  | ok a Γ' => exact fun G2 H2 F2 b => h G2 H2 F2 (s.trans b)
  | ex x Γ' => exact fun dd G2 H2 F2 b => h dd G2 H2 F2 (s.trans b)
  | bad => exact h
theorem Aft.bind {r : Res α} {f : α → Ga → Res β} {P : β → Ga → Hp → Hp → List Addr → Prop} (h : Aft K m W ρ G H F σ (r.bind f) P) :
    Aft K m W ρ G H F σ r fun a Γ' G' H' F' => R K ρ G' H' F' σ Γ' ∧ Aft K m W ρ G' H' F' σ (f a Γ') P := by
  cases r with
  | ok a Γ' => exact fun G2 H2 F2 b r2 => ⟨r2, Aft.step b h⟩
  | ex x Γ' => exact h
  | bad => exact h
theorem Aft.mono {r : Res α} {P P' : α → Ga → Hp → Hp → List Addr → Prop} (h : Aft K m W ρ G H F σ r P) (i : ∀ a Γ' G' H' F', P a Γ' G' H' F' → P' a Γ' G' H' F') : Aft K m W ρ G H F σ r P' := by
  cases r with
  | ok a Γ' => exact fun G2 H2 F2 b r2 => i _ _ _ _ _ (h G2 H2 F2 b r2)
  | ex x Γ' => exact h
  | bad => exact h
end
def Res.ofO {α : Type} (o : Option α) (Γ : Ga) : Res α := match o with
  | some a => .ok a Γ
  | none => .bad
@[simp] theorem Res.ofO_some {α : Type} (a : α) (Γ : Ga) : Res.ofO (some a) Γ = .ok a Γ := rfl
@[simp] theorem Res.ofO_none {α : Type} (Γ : Ga) : (Res.ofO none Γ : Res α) = .bad := rfl
end DL
end
section
set_option Elab.async false
set_option linter.all false
set_option maxRecDepth 100000
/-! DL3: expressions over slots: what their results are. -/
namespace DL
open PySem L2

/-- a reading at values: what f gives at data -/
def PGo (K : PySem.W.Frag) (G H : Hp) (r : Option D) (Q : VK) : Prop :=
  match r with
  | some d => ∀ v G' H', Gr G H G' H' → Den K G' d v → Q v H'
  | none => False
abbrev DE := Ga → Res D
def LE (K : PySem.W.Frag) (m : Bool) (W : WX) (δ : DE) : TE := fun σ H Q => ∃ ρ G F Γ, R K ρ G H F σ Γ ∧ Aft K m W ρ G H F σ (δ Γ) fun d _ G' H' _ => ∀ v, Den K G' d v → Q v H'
def SD (X : Cx) (m : Bool) (W : WX) (e : Expr) (δ : DE) : Prop := PE X e (LE X.K m W δ)
abbrev DA := Ga → Res (List D)
def LA (K : PySem.W.Frag) (m : Bool) (W : WX) (δ : DA) : TA := fun σ H Q => ∃ ρ G F Γ, R K ρ G H F σ Γ ∧ Aft K m W ρ G H F σ (δ Γ) fun ds _ G' H' _ => ∀ vs, Dens K G' ds vs → Q vs H'
def SA (X : Cx) (m : Bool) (W : WX) (es : List Expr) (δ : DA) : Prop := PA X es (LA X.K m W δ)
abbrev DT := Ga → Res Bool
def LT (K : PySem.W.Frag) (m : Bool) (W : WX) (δ : DT) : TT := fun σ H Q => ∃ ρ G F Γ, R K ρ G H F σ Γ ∧ Aft K m W ρ G H F σ (δ Γ) fun b _ _ H' _ => Q b H'
def ST (X : Cx) (m : Bool) (W : WX) (e : Expr) (δ : DT) : Prop := PT X e (LT X.K m W δ)
def SW (X : Cx) (m : Bool) (W : WX) (e : Expr) (δ : DT) : Prop := PW X e (LT X.K m W δ)
abbrev DO := Ga → Res (Option Int)
def LO (K : PySem.W.Frag) (m : Bool) (W : WX) (δ : DO) : TO := fun σ H Q => ∃ ρ G F Γ, R K ρ G H F σ Γ ∧ Aft K m W ρ G H F σ (δ Γ) fun b _ _ H' _ => Q b H'
def SO (X : Cx) (m : Bool) (W : WX) (e : Option Expr) (δ : DO) : Prop := PO X e (LO X.K m W δ)

theorem _root_.L2.PE.imp {X : Cx} {e : Expr} {t t' : TE} (h : PE X e t) (i : ∀ σ H Q, t' σ H Q → t σ H Q) : PE X e t' := ⟨fun pins s σ H Q I q => h.run pins s σ H Q I (i σ H Q q)⟩
theorem _root_.L2.PT.imp {X : Cx} {e : Expr} {t t' : TT} (h : PT X e t) (i : ∀ σ H Q, t' σ H Q → t σ H Q) : PT X e t' := ⟨fun pins s σ H Q I q => h.run pins s σ H Q I (i σ H Q q)⟩
theorem _root_.L2.PW.imp {X : Cx} {e : Expr} {t t' : TT} (h : PW X e t) (i : ∀ σ H Q, t' σ H Q → t σ H Q) : PW X e t' := ⟨fun w pins s σ H Q I q => h.run w pins s σ H Q I (i σ H Q q)⟩
theorem _root_.L2.PA.imp {X : Cx} {es : List Expr} {t t' : TA} (h : PA X es t) (i : ∀ σ H Q, t' σ H Q → t σ H Q) : PA X es t' := ⟨fun p pins s σ H Q I q => h.run p pins s σ H Q I (i σ H Q q)⟩
theorem _root_.L2.PO.imp {X : Cx} {e : Option Expr} {t t' : TO} (h : PO X e t) (i : ∀ σ H Q, t' σ H Q → t σ H Q) : PO X e t' := ⟨fun pins s σ H Q I q => h.run pins s σ H Q I (i σ H Q q)⟩
theorem _root_.L2.PS.imp {X : Cx} {st : Stmt} {t t' : TS} (h : PS X st t) (i : ∀ D σ H, t' D σ H → t D σ H) : PS X st t' := ⟨fun pins s σ H D I q => h.run pins s σ H D I (i D σ H q)⟩
theorem _root_.L2.PSs.imp {X : Cx} {st : List Stmt} {t t' : TS} (h : PSs X st t) (i : ∀ D σ H, t' D σ H → t D σ H) : PSs X st t' := ⟨fun pins s σ H D I q => h.run pins s σ H D I (i D σ H q)⟩
theorem _root_.L2.PI.imp {X : Cx} {tg it : Expr} {t t' : TI} (h : PI X tg it t) (i : ∀ σ H Q, t' σ H Q → t σ H Q) : PI X tg it t' := ⟨fun pins s σ H Q I q => h.run pins s σ H Q I (i σ H Q q)⟩

section
variable {X : Cx} {K : PySem.W.Frag} {m : Bool} {W : WX}
theorem PGo.gr {G H G' H' : Hp} {r : Option D} {Q : VK} (a : Gr G H G' H') (h : PGo K G H r Q) : PGo K G' H' r Q := by
  cases r with
  | none => exact h
  | some d => exact fun v G2 H2 b hd => h v G2 H2 (a.trans b) hd
theorem PGo.val {G H : Hp} {d : D} {v : V} {Q : VK} (s : Same G H) (h : PGo K G H (some d) Q) (hd : Den K G d v) : Q v H := h v G H (Gr.refl s) hd
/-- behind the last operation -/
theorem Aft.pgo {ρ : List V} {G H : Hp} {F : List Addr} {σ : L2.St} {Γ : Ga} {r : Option D} {Q : VK} (rr : R K ρ G H F σ Γ) (h : Aft K m W ρ G H F σ (Res.ofO r Γ) fun d _ G' H' _ => ∀ v, Den K G' d v → Q v H') : PGo K G H r Q := by
  cases r with
  | none => exact h
  | some d => exact fun v G' H' a hd => h G' H' F a.step (rr.gr a) v hd

/-! ### operators by values -/
/-- r does at values what f does at data -/
def Vop1 (K : PySem.W.Frag) (r : V → Hp → VK → Prop) (f : D → Option D) : Prop := ∀ G H x dx Q, Same G H → Den K G dx x → PGo K G H (f dx) Q → r x H Q
def Vop2 (K : PySem.W.Frag) (r : R2) (f : D → D → Option D) : Prop := ∀ G H x y dx dy Q, Same G H → Den K G dx x → Den K G dy y → PGo K G H (f dx dy) Q → r x y H Q
def Vops (K : PySem.W.Frag) (r : List V → Hp → VK → Prop) (f : List D → Option D) : Prop := ∀ G H vs ds Q, Same G H → Dens K G ds vs → PGo K G H (f ds) Q → r vs H Q
def Vopm (K : PySem.W.Frag) (r : V → List V → Hp → VK → Prop) (f : D → List D → Option D) : Prop := ∀ G H x vs dx ds Q, Same G H → Den K G dx x → Dens K G ds vs → PGo K G H (f dx ds) Q → r x vs H Q
def Vsl (K : PySem.W.Frag) (r : V → Option Int → Option Int → Hp → VK → Prop) (f : D → Option Int → Option Int → Option D) : Prop := ∀ G H x lo hi dx Q, Same G H → Den K G dx x → PGo K G H (f dx lo hi) Q → r x lo hi H Q

def dVar (i : Nat) : DE := fun Γ => match Γ[i]? with
  | some (.fz d) => .ok d Γ
  | _ => .bad
def dC (d : D) : DE := fun Γ => .ok d Γ
def d1 (f : D → Option D) (a : DE) : DE := fun Γ => (a Γ).bind fun x Γ => Res.ofO (f x) Γ
def d2 (f : D → D → Option D) (a b : DE) : DE := fun Γ => (a Γ).bind fun x Γ => (b Γ).bind fun y Γ => Res.ofO (f x y) Γ
def dA (f : List D → Option D) (a : DA) : DE := fun Γ => (a Γ).bind fun xs Γ => Res.ofO (f xs) Γ
def dM (f : D → List D → Option D) (a : DE) (as : DA) : DE := fun Γ => (a Γ).bind fun x Γ => (as Γ).bind fun xs Γ => Res.ofO (f x xs) Γ
def daNil : DA := fun Γ => .ok [] Γ
def daCons (a : DE) (as : DA) : DA := fun Γ => (a Γ).bind fun x Γ => (as Γ).bind fun xs Γ => .ok (x :: xs) Γ

theorem Aft.okv {ρ : List V} {G H : Hp} {F : List Addr} {σ : L2.St} {Γ : Ga} {d : D} {v : V} {Q : VK} (rr : R K ρ G H F σ Γ) (h : Aft K m W ρ G H F σ (.ok d Γ) fun d _ G' H' _ => ∀ v, Den K G' d v → Q v H') (hd : Den K G d v) : Q v H :=
  h G H F (Step.refl rr.sub) rr v hd
theorem sd_var (i : Nat) {x : Str} {pos : Pos} (hN : X.N[i]? = some x := by rfl) (hv : Vis X.env.scope x := by first | exact Or.inl rfl | exact Or.inr (Or.inl rfl) | exact Or.inr (Or.inr rfl)) (hd : (x == ("__debug__" : Str)) = false := by decide)
    (hcd : (x == ("__classdict__" : Str)) = false := by decide) : SD X m W (.Name x pos) (dVar i) := (pe_var hN hv hd hcd).imp fun σ H Q ⟨ρ, G, F, Γ, r, h⟩ => by
  unfold dVar at h
  split at h
  · rename_i d e
    obtain ⟨v, hv, hd⟩ := r.fz e
    exact ⟨v, hv, h.okv r hd⟩
  · exact h.elim
theorem sd_int {i j pos} : SD X m W (.Constant (.int i) j pos) (dC (.int i)) := pe_int.imp fun σ H Q ⟨ρ, G, F, Γ, r, h⟩ => Aft.okv r h rfl
theorem sd_bl {b j pos} : SD X m W (.Constant (.bool b) j pos) (dC (.bl b)) := pe_bl.imp fun σ H Q ⟨ρ, G, F, Γ, r, h⟩ => Aft.okv r h rfl
theorem sd_non {j pos} : SD X m W (.Constant .none j pos) (dC .non) := pe_non.imp fun σ H Q ⟨ρ, G, F, Γ, r, h⟩ => Aft.okv r h rfl
theorem sd_str {x j pos} : SD X m W (.Constant (.str x) j pos) (dC (.str x)) := pe_str.imp fun σ H Q ⟨ρ, G, F, Γ, r, h⟩ => Aft.okv r h rfl
/-- a module's constant -/
theorem sd_glob {x : Str} {d : D} {v : V} {u : Value} {pos : Pos} (hg : Gl X x) (hm : X.mg x = some u) (r : RelV v u) (hd : ∀ G, Den X.K G d v) (hdb : (x == ("__debug__" : Str)) = false := by decide) : SD X m W (.Name x pos) (dC d) :=
  (pe_glob hg hm r hdb).imp fun σ H Q ⟨ρ, G, F, Γ, r, h⟩ => Aft.okv r h (hd G)

theorem le1 {δ : DE} {f : D → Option D} {r : V → Hp → VK → Prop} (hr : Vop1 X.K r f) (σ : L2.St) (H : Hp) (Q : VK) (h : LE X.K m W (d1 f δ) σ H Q) : LE X.K m W δ σ H fun x H1 => r x H1 Q := by
  obtain ⟨ρ, G, F, Γ, rr, h⟩ := h
  refine ⟨ρ, G, F, Γ, rr, (Aft.bind h).mono fun d Γ1 G1 H1 F1 ⟨r1, h1⟩ v hd => ?_⟩
  exact hr G1 H1 v d Q r1.sub hd (Aft.pgo r1 h1)
theorem Aft.bindG {ρ : List V} {G H : Hp} {F : List Addr} {σ : L2.St} {α β : Type} {r : Res α} {f : α → Ga → Res β} {P : β → Ga → Hp → Hp → List Addr → Prop} (h : Aft K m W ρ G H F σ (r.bind f) P) :
    Aft K m W ρ G H F σ r fun a Γ' G' H' F' => (R K ρ G' H' F' σ Γ' ∧ Same G G') ∧ Aft K m W ρ G' H' F' σ (f a Γ') P := by
  cases r with
  | ok a Γ' => exact fun G2 H2 F2 b r2 => ⟨⟨r2, b.g⟩, Aft.step b h⟩
  | ex x Γ' => exact h
  | bad => exact h
/-- two in a row -/
theorem le2 {δ ε : DE} {f : D → D → Option D} {r : R2} (hr : Vop2 X.K r f) (σ : L2.St) (H : Hp) (Q : VK) (h : LE X.K m W (d2 f δ ε) σ H Q) : LE X.K m W δ σ H fun x H1 => LE X.K m W ε σ H1 fun y H2 => r x y H2 Q := by
  obtain ⟨ρ, G, F, Γ, rr, h⟩ := h
  refine ⟨ρ, G, F, Γ, rr, (Aft.bind h).mono fun d Γ1 G1 H1 F1 ⟨r1, h1⟩ v hd => ?_⟩
  refine ⟨ρ, G1, F1, Γ1, r1, (Aft.bindG h1).mono fun d2 Γ2 G2 H2 F2 ⟨⟨r2, g2⟩, h2⟩ v2 hd2 => ?_⟩
  exact hr G2 H2 v v2 d d2 Q r2.sub (Den.mono g2 _ _ hd) hd2 (Aft.pgo r2 h2)
theorem sa_nil : SA X m W [] daNil := pa_nil.imp fun σ H Q ⟨ρ, G, F, Γ, r, h⟩ => h G H F (Step.refl r.sub) r [] (by simp [Dens])
theorem sa_cons {e : Expr} {es : List Expr} {a : DE} {as : DA} (ha : SD X m W e a) (hs : SA X m W es as) (hst : starEach (e :: es) X.env = (false, eval e X.env) :: starEach es X.env := by rfl) : SA X m W (e :: es) (daCons a as) := (pa_cons ha hs hst).imp fun σ H Q ⟨ρ, G, F, Γ, r, h⟩ => by
  refine ⟨ρ, G, F, Γ, r, (Aft.bind h).mono fun d Γ1 G1 H1 F1 ⟨r1, h1⟩ v hd => ?_⟩
  refine ⟨ρ, G1, F1, Γ1, r1, (Aft.bindG h1).mono fun ds Γ2 G2 H2 F2 ⟨⟨r2, g2⟩, h2⟩ vs hds => ?_⟩
  exact h2 G2 H2 F2 (Step.refl r2.sub) r2 (v :: vs) ⟨v, vs, rfl, Den.mono g2 _ _ hd, hds⟩
theorem leA {δ : DA} {f : List D → Option D} {r : List V → Hp → VK → Prop} (hr : Vops X.K r f) (σ : L2.St) (H : Hp) (Q : VK) (h : LE X.K m W (dA f δ) σ H Q) : LA X.K m W δ σ H fun vs H1 => r vs H1 Q := by
  obtain ⟨ρ, G, F, Γ, rr, h⟩ := h
  refine ⟨ρ, G, F, Γ, rr, (Aft.bind h).mono fun d Γ1 G1 H1 F1 ⟨r1, h1⟩ v hd => ?_⟩
  exact hr G1 H1 v d Q r1.sub hd (Aft.pgo r1 h1)
theorem leM {δ : DE} {ε : DA} {f : D → List D → Option D} {r : V → List V → Hp → VK → Prop} (hr : Vopm X.K r f) (σ : L2.St) (H : Hp) (Q : VK) (h : LE X.K m W (dM f δ ε) σ H Q) : LE X.K m W δ σ H fun x H1 => LA X.K m W ε σ H1 fun vs H2 => r x vs H2 Q := by
  obtain ⟨ρ, G, F, Γ, rr, h⟩ := h
  refine ⟨ρ, G, F, Γ, rr, (Aft.bind h).mono fun d Γ1 G1 H1 F1 ⟨r1, h1⟩ v hd => ?_⟩
  refine ⟨ρ, G1, F1, Γ1, r1, (Aft.bindG h1).mono fun d2 Γ2 G2 H2 F2 ⟨⟨r2, g2⟩, h2⟩ v2 hd2 => ?_⟩
  exact hr G2 H2 v v2 d d2 Q r2.sub (Den.mono g2 _ _ hd) hd2 (Aft.pgo r2 h2)

/-! ### forms -/
theorem sd_op {op : Operator} {r : R2} {f : D → D → Option D} {a b : Expr} {δ ε : DE} {pos : Pos} (ho : OpR X (binaryOp op) r) (hv : Vop2 X.K r f) (ha : SD X m W a δ) (hb : SD X m W b ε) : SD X m W (.BinOp a op b pos) (d2 f δ ε) := (pe_op ho ha hb).imp (le2 hv)
theorem sd_un {op : UnaryOp} {r : V → Hp → VK → Prop} {f : D → Option D} {a : Expr} {δ : DE} {pos : Pos} (ho : UnR X (unaryOp op) r) (hv : Vop1 X.K r f) (ha : SD X m W a δ) : SD X m W (.UnaryOp op a pos) (d1 f δ) := (pe_un ho ha).imp (le1 hv)
theorem sd_cmp {op : CmpOp} {r : R2} {f : D → D → Option D} {a b : Expr} {δ ε : DE} {pos : Pos} (ho : OpR X (compareOp op) r) (hv : Vop2 X.K r f) (ha : SD X m W a δ) (hb : SD X m W b ε) (hm : behindInMarks op b = false) : SD X m W (.Compare a [op] [b] pos) (d2 f δ ε) := (pe_cmpR ho ha hb hm).imp (le2 hv)
theorem sd_callB {x : Str} {p pos : Pos} {e : Expr} {es : List Expr} {δ : DA} {id : String} {r : List V → Hp → VK → Prop} {f : List D → Option D} (hc : CallR X (.builtin id) r) (hv : Vops X.K r f) (hg : Gl X x) (hm : X.mg x = none) (hb : bootBuiltins x = some (.builtin id)) (ha : SA X m W (e :: es) δ) (hn : x ≠ "__name__" := by decide) (hdb : (x == ("__debug__" : Str)) = false := by decide)
    (he : starEach (e :: es) X.env = (false, eval e X.env) :: starEach es X.env := by rfl) (hpl : (backTo pos (starEach es X.env)).any (·.1) = false := by rfl) : SD X m W (.Call (.Name x p) (e :: es) [] pos) (dA f δ) := (pe_callB hc hg hm hb ha hn hdb he hpl).imp (leA hv)
theorem sd_callTy {x : Str} {p pos : Pos} {e : Expr} {es : List Expr} {δ : DA} {T : String} {r : List V → Hp → VK → Prop} {f : List D → Option D} (hc : CallR X (.type T) r) (hv : Vops X.K r f) (hg : Gl X x) (hm : X.mg x = none) (hb : bootBuiltins x = some (.type T)) (ha : SA X m W (e :: es) δ) (hn : x ≠ "__name__" := by decide) (hdb : (x == ("__debug__" : Str)) = false := by decide)
    (he : starEach (e :: es) X.env = (false, eval e X.env) :: starEach es X.env := by rfl) (hpl : (backTo pos (starEach es X.env)).any (·.1) = false := by rfl) : SD X m W (.Call (.Name x p) (e :: es) [] pos) (dA f δ) := (pe_callTy hc hg hm hb ha hn hdb he hpl).imp (leA hv)
theorem sd_ix {r : R2} {f : D → D → Option D} {a b : Expr} {δ ε : DE} {pos : Pos} (hr : IxR X r) (hv : Vop2 X.K r f) (ha : SD X m W a δ) (hb : SD X m W b ε) (hs : PlainIx b) : SD X m W (.Subscript a b pos) (d2 f δ ε) := (pe_ix hr ha hb hs).imp (le2 hv)

def doNo : DO := fun Γ => .ok none Γ
def doAt (a : DE) : DO := fun Γ => (a Γ).bind fun d Γ => match d with
  | .int i => .ok (some i) Γ
  | _ => .bad
theorem so_none : SO X m W none doNo := po_none.imp fun σ H Q ⟨ρ, G, F, Γ, r, h⟩ => h G H F (Step.refl r.sub) r
theorem so_some {e : Expr} {δ : DE} (h : SD X m W e δ) : SO X m W (some e) (doAt δ) := (po_some h).imp fun σ H Q ⟨ρ, G, F, Γ, r, h⟩ => by
  refine ⟨ρ, G, F, Γ, r, (Aft.bind h).mono fun d Γ1 G1 H1 F1 ⟨r1, h1⟩ v hd => ?_⟩
  cases d with
  | int i => exact ⟨i, hd, h1 G1 H1 F1 (Step.refl r1.sub) r1⟩
  | _ => exact False.elim h1
def dSl (f : D → Option Int → Option Int → Option D) (a : DE) (l u : DO) : DE := fun Γ => (a Γ).bind fun x Γ => (l Γ).bind fun lo Γ => (u Γ).bind fun hi Γ => Res.ofO (f x lo hi) Γ
theorem sd_slice {r : V → Option Int → Option Int → Hp → VK → Prop} {f : D → Option Int → Option Int → Option D} {e : Expr} {lo hi : Option Expr} {δ : DE} {l u : DO} {pos p2 : Pos} (hr : SlR X r) (hv : Vsl X.K r f) (he : SD X m W e δ) (hl : SO X m W lo l) (hu : SO X m W hi u) :
    SD X m W (.Subscript e (.Slice lo hi none p2) pos) (dSl f δ l u) := (pe_slice hr he hl hu).imp fun σ H Q ⟨ρ, G, F, Γ, rr, h⟩ => by
  refine ⟨ρ, G, F, Γ, rr, (Aft.bind h).mono fun d Γ1 G1 H1 F1 ⟨r1, h1⟩ v hd => ?_⟩
  refine ⟨ρ, G1, F1, Γ1, r1, (Aft.bindG h1).mono fun lo Γ2 G2 H2 F2 ⟨⟨r2, g2⟩, h2⟩ => ?_⟩
  refine ⟨ρ, G2, F2, Γ2, r2, (Aft.bindG h2).mono fun hi Γ3 G3 H3 F3 ⟨⟨r3, g3⟩, h3⟩ => ?_⟩
  exact hv G3 H3 v lo hi d Q r3.sub (Den.mono (Same.trans g2 g3) _ _ hd) (Aft.pgo r3 h3)

/-! ### displays of tuples and (frozen) lists -/
def sizeOk (n : Nat) : Bool := decide (n ≤ 16000000)
theorem sizeOk_le {n : Nat} (h : sizeOk n = true) : n ≤ sizeLine := Nat.le_trans (of_decide_eq_true h) (by rw [sizeLine_eq]; decide)
theorem sizeOk_lt {n : Nat} (h : sizeOk n = true) : n < sizeLine := Nat.lt_of_le_of_lt (of_decide_eq_true h) (by rw [sizeLine_eq]; decide)
def oTupOf (ds : List D) : Option D := if sizeOk ds.length then some (.tup ds) else none
def oLstOf (ds : List D) : Option D := if sizeOk ds.length then some (.lst ds) else none
theorem sd_tup {es : List Expr} {δ : DA} {k pos} (h : SA X m W es δ) : SD X m W (.Tuple es k pos) (dA oTupOf δ) := (pe_tup h).imp fun σ H Q ⟨ρ, G, F, Γ, r, h⟩ => by
  refine ⟨ρ, G, F, Γ, r, (Aft.bind h).mono fun ds Γ1 G1 H1 F1 ⟨r1, h1⟩ vs hd => ?_⟩
  have h1 := Aft.pgo r1 h1
  unfold oTupOf at h1
  split at h1
  · rename_i hz
    refine ⟨by rw [hd.length]; exact sizeOk_le hz, fun p hp => ?_⟩
    have g2 := Gr.new (o := .tup vs) r1.sub hp
    exact h1 (.ref p) _ _ g2 ⟨p, vs, rfl, SqT.of upd_same, Dens.mono g2.g _ _ hd⟩
  · exact False.elim h1
theorem sd_lst {es : List Expr} {δ : DA} {pos} (h : SA X m W es δ) : SD X m W (.List es pos) (dA oLstOf δ) := (pe_lst h).imp fun σ H Q ⟨ρ, G, F, Γ, r, h⟩ => by
  refine ⟨ρ, G, F, Γ, r, (Aft.bind h).mono fun ds Γ1 G1 H1 F1 ⟨r1, h1⟩ vs hd => ?_⟩
  have h1 := Aft.pgo r1 h1
  unfold oLstOf at h1
  split at h1
  · rename_i hz
    refine ⟨by rw [hd.length]; exact sizeOk_le hz, fun p hp => ?_⟩
    have g2 := Gr.new (o := .lst vs) r1.sub hp
    exact h1 (.ref p) _ _ g2 ⟨p, vs, rfl, SqL.of upd_same, Dens.mono g2.g _ _ hd⟩
  · exact False.elim h1

/-! ### tests -/
def D.bl? : D → Option Bool
  | .bl b => some b
  | _ => none
def dtB (a : DE) : DT := fun Γ => (a Γ).bind fun d Γ => Res.ofO d.bl? Γ
theorem ltB {δ : DE} (σ : L2.St) (H : Hp) (Q : Bool → Hp → Prop) (h : LT X.K m W (dtB δ) σ H Q) : LE X.K m W δ σ H fun x H1 => ∃ k, x = .bl k ∧ Q k H1 := by
  obtain ⟨ρ, G, F, Γ, rr, h⟩ := h
  refine ⟨ρ, G, F, Γ, rr, (Aft.bind h).mono fun d Γ1 G1 H1 F1 ⟨r1, h1⟩ v hd => ?_⟩
  cases d with
  | bl b => exact ⟨b, hd, h1 G1 H1 F1 (Step.refl r1.sub) r1⟩
  | _ => exact False.elim h1
/-- an expression that gives True or False -/
theorem st_val {e : Expr} {δ : DE} (h : SD X m W e δ) (he : ∀ whole, isTrue e X.env whole = (do let v ← whole; standAt e.pos; holding [v] (truthy v)) := by intro _; rfl) : ST X m W e (dtB δ) := (pt_val h he).imp ltB
theorem st_cmp {op : CmpOp} {r : R2} {f : D → D → Option D} {a b : Expr} {δ ε : DE} {pos : Pos} (ho : OpR X (compareOp op) r) (hv : Vop2 X.K r f) (ha : SD X m W a δ) (hb : SD X m W b ε) (hm : behindInMarks op b = false) : ST X m W (.Compare a [op] [b] pos) (dtB (d2 f δ ε)) :=
  (pt_cmpR ho ha hb hm).imp fun σ H Q h => le2 hv σ H (fun x H' => ∃ k, x = V.bl k ∧ Q k H') (ltB σ H Q h)
/-- the truth of data -/
def D.truth : D → Option Bool
  | .non => some false
  | .bl b => some b
  | .int i => some (i != 0)
  | .str s => if sizeOk s.length then some ((s.length : Int) != 0) else none
  | .tup xs => some (!xs.isEmpty)
  | .lst xs => some (!xs.isEmpty)
  | .dK ks _ => some (!ks.isEmpty)
  | .dT _ _ => none
def dtTr (a : DE) : DT := fun Γ => (a Γ).bind fun d Γ => Res.ofO d.truth Γ
def dtAnd (a b : DT) : DT := fun Γ => (a Γ).bind fun k Γ => if k = true then b Γ else .ok false Γ
def dtOr (a b : DT) : DT := fun Γ => (a Γ).bind fun k Γ => if k = true then .ok true Γ else b Γ
def dtNot (a : DT) : DT := fun Γ => (a Γ).bind fun k Γ => .ok (!k) Γ
theorem ltAnd {φ ψ : DT} (σ : L2.St) (H : Hp) (Q : Bool → Hp → Prop) (h : LT X.K m W (dtAnd φ ψ) σ H Q) : tAnd (LT X.K m W φ) (LT X.K m W ψ) σ H Q := by
  obtain ⟨ρ, G, F, Γ, rr, h⟩ := h
  refine ⟨ρ, G, F, Γ, rr, (Aft.bind h).mono fun k Γ1 G1 H1 F1 ⟨r1, h1⟩ => ?_⟩
  cases k with
  | true => exact ⟨ρ, G1, F1, Γ1, r1, h1⟩
  | false => exact h1 G1 H1 F1 (Step.refl r1.sub) r1
theorem ltOr {φ ψ : DT} (σ : L2.St) (H : Hp) (Q : Bool → Hp → Prop) (h : LT X.K m W (dtOr φ ψ) σ H Q) : tOr (LT X.K m W φ) (LT X.K m W ψ) σ H Q := by
  obtain ⟨ρ, G, F, Γ, rr, h⟩ := h
  refine ⟨ρ, G, F, Γ, rr, (Aft.bind h).mono fun k Γ1 G1 H1 F1 ⟨r1, h1⟩ => ?_⟩
  cases k with
  | false => exact ⟨ρ, G1, F1, Γ1, r1, h1⟩
  | true => exact h1 G1 H1 F1 (Step.refl r1.sub) r1
theorem sw_and1 {a : Expr} {φ : DT} {pos : Pos} (h : ST X m W a φ) : SW X m W (.BoolOp .And [a] pos) φ := pw_and1 h
theorem sw_or1 {a : Expr} {φ : DT} {pos : Pos} (h : ST X m W a φ) : SW X m W (.BoolOp .Or [a] pos) φ := pw_or1 h
theorem sw_and {a b : Expr} {rest : List Expr} {φ ψ : DT} {pos : Pos} (ha : ST X m W a φ) (hb : SW X m W (.BoolOp .And (b :: rest) pos) ψ) : SW X m W (.BoolOp .And (a :: b :: rest) pos) (dtAnd φ ψ) := (pw_and ha hb).imp ltAnd
theorem sw_or {a b : Expr} {rest : List Expr} {φ ψ : DT} {pos : Pos} (ha : ST X m W a φ) (hb : SW X m W (.BoolOp .Or (b :: rest) pos) ψ) : SW X m W (.BoolOp .Or (a :: b :: rest) pos) (dtOr φ ψ) := (pw_or ha hb).imp ltOr
theorem SW.pt {e : Expr} {φ : DT} (h : SW X m W e φ) : ST X m W e φ := PW.pt h
theorem st_not {a : Expr} {φ : DT} {pos : Pos} (ha : ST X m W a φ) : ST X m W (.UnaryOp .Not a pos) (dtNot φ) := (pt_not ha).imp fun σ H Q ⟨ρ, G, F, Γ, rr, h⟩ => by
  refine ⟨ρ, G, F, Γ, rr, (Aft.bind h).mono fun k Γ1 G1 H1 F1 ⟨r1, h1⟩ => ?_⟩
  exact h1 G1 H1 F1 (Step.refl r1.sub) r1
theorem tru_den {G H : Hp} {d : D} {x : V} {k : Bool} (s : Same G H) (hd : Den K G d x) (e : d.truth = some k) : TruV K x H k := by
  cases d with
  | non => cases hd; cases e; exact rfl
  | bl b => cases hd; cases e; exact rfl
  | int i => cases hd; cases e; exact rfl
  | str z =>
    cases hd
    have e : (if sizeOk z.length then some ((z.length : Int) != 0) else none) = some k := e
    split at e
    · rename_i hz; cases e; exact ⟨sizeOk_le hz, rfl⟩
    · cases e
  | tup xs =>
    obtain ⟨a, vs, rfl, h2, h3⟩ := hd
    cases e
    refine .inr (.inl ⟨vs, sqT_mono s h2, ?_⟩)
    have := h3.length
    cases xs <;> cases vs <;> simp_all
  | lst xs =>
    obtain ⟨a, vs, rfl, h2, h3⟩ := hd
    cases e
    refine .inl ⟨vs, s.seq h2, ?_⟩
    have := h3.length
    cases xs <;> cases vs <;> simp_all
  | dK ks xs =>
    obtain ⟨a, vs, rfl, h2, h3, h4⟩ := hd
    cases e
    refine .inr (.inr ⟨_, s _ _ h2, ?_⟩)
    have h5 := h4.length
    cases ks <;> cases vs <;> simp at h3 h5 ⊢
    all_goals omega
  | dT ks xs => cases e
theorem st_tr {e : Expr} {δ : DE} (h : SD X m W e δ) (he : ∀ whole, isTrue e X.env whole = (do let v ← whole; standAt e.pos; holding [v] (truthy v)) := by intro _; rfl) : ST X m W e (dtTr δ) := (pt_truth h he).imp fun σ H Q ⟨ρ, G, F, Γ, rr, h⟩ => by
  refine ⟨ρ, G, F, Γ, rr, (Aft.bind h).mono fun d Γ1 G1 H1 F1 ⟨r1, h1⟩ v hd => ?_⟩
  cases e2 : d.truth with
  | none => rw [e2] at h1; exact False.elim h1
  | some k =>
    rw [e2] at h1
    exact ⟨k, tru_den r1.sub hd e2, h1 G1 H1 F1 (Step.refl r1.sub) r1⟩
/-- a if t else b -/
def dIf (c : DT) (a b : DE) : DE := fun Γ => (c Γ).bind fun k Γ => if k = true then a Γ else b Γ
theorem sd_if {c a b : Expr} {pos : Pos} {γ : DT} {δ ε : DE} (hc : ST X m W c γ) (ha : SD X m W a δ) (hb : SD X m W b ε) : SD X m W (.IfExp c a b pos) (dIf γ δ ε) := (pe_ifExp hc ha hb).imp fun σ H Q ⟨ρ, G, F, Γ, rr, h⟩ => by
  refine ⟨ρ, G, F, Γ, rr, (Aft.bind h).mono fun k Γ1 G1 H1 F1 ⟨r1, h1⟩ => ?_⟩
  cases k with
  | true => exact ⟨ρ, G1, F1, Γ1, r1, h1⟩
  | false => exact ⟨ρ, G1, F1, Γ1, r1, h1⟩
/-- a and b, a or b, not a as values: all but the last True or False -/
def dAnd (a b : DE) : DE := fun Γ => (a Γ).bind fun x Γ => match x with
  | .bl k => if k = true then b Γ else .ok (.bl false) Γ
  | _ => .bad
def dOr (a b : DE) : DE := fun Γ => (a Γ).bind fun x Γ => match x with
  | .bl k => if k = true then .ok (.bl true) Γ else b Γ
  | _ => .bad
def oNot : D → Option D
  | .bl c => some (.bl (!c))
  | _ => none
theorem sd_one {op : BoolOp} {a : Expr} {δ : DE} {pos : Pos} (h : SD X m W a δ) : SD X m W (.BoolOp op [a] pos) δ := pe_one h
theorem sd_and {a b : Expr} {rest : List Expr} {δ ε : DE} {pos : Pos} (ha : SD X m W a δ) (hb : SD X m W (.BoolOp .And (b :: rest) pos) ε) : SD X m W (.BoolOp .And (a :: b :: rest) pos) (dAnd δ ε) := (pe_and ha hb).imp fun σ H Q ⟨ρ, G, F, Γ, rr, h⟩ => by
  refine ⟨ρ, G, F, Γ, rr, (Aft.bind h).mono fun d Γ1 G1 H1 F1 ⟨r1, h1⟩ v hd => ?_⟩
  cases d with
  | bl b =>
    refine ⟨b, hd, ?_⟩
    cases b with
    | true => exact ⟨ρ, G1, F1, Γ1, r1, h1⟩
    | false => exact h1 G1 H1 F1 (Step.refl r1.sub) r1 (.bl false) rfl
  | _ => exact False.elim h1
theorem sd_or {a b : Expr} {rest : List Expr} {δ ε : DE} {pos : Pos} (ha : SD X m W a δ) (hb : SD X m W (.BoolOp .Or (b :: rest) pos) ε) : SD X m W (.BoolOp .Or (a :: b :: rest) pos) (dOr δ ε) := (pe_or ha hb).imp fun σ H Q ⟨ρ, G, F, Γ, rr, h⟩ => by
  refine ⟨ρ, G, F, Γ, rr, (Aft.bind h).mono fun d Γ1 G1 H1 F1 ⟨r1, h1⟩ v hd => ?_⟩
  cases d with
  | bl b =>
    refine ⟨b, hd, ?_⟩
    cases b with
    | false => exact ⟨ρ, G1, F1, Γ1, r1, h1⟩
    | true => exact h1 G1 H1 F1 (Step.refl r1.sub) r1 (.bl true) rfl
  | _ => exact False.elim h1
theorem sd_not {a : Expr} {δ : DE} {pos : Pos} (ha : SD X m W a δ) : SD X m W (.UnaryOp .Not a pos) (d1 oNot δ) := (pe_not ha).imp fun σ H Q ⟨ρ, G, F, Γ, rr, h⟩ => by
  refine ⟨ρ, G, F, Γ, rr, (Aft.bind h).mono fun d Γ1 G1 H1 F1 ⟨r1, h1⟩ v hd => ?_⟩
  cases d with
  | bl b => exact ⟨b, hd, h1 G1 H1 F1 (Step.refl r1.sub) r1 _ rfl⟩
  | _ => exact False.elim h1
/-- a pure expression as any -/
theorem SD.up {e : Expr} {δ : DE} (h : SD X false W e δ) : SD X m W e δ := PE.imp h fun σ H Q ⟨ρ, G, F, Γ, rr, h⟩ => by
  refine ⟨ρ, G, F, Γ, rr, ?_⟩
  cases e1 : δ Γ with
  | ok d Γ' => rw [e1] at h; exact fun G' H' F' s r => h G' H' F' (s.1.stepS s.2) r
  | ex x Γ' => rw [e1] at h; exact fun dd G' H' F' s r => h dd G' H' F' (s.1.stepS s.2) r
  | bad => rw [e1] at h; exact h
end
end DL
end
section
set_option Elab.async false
set_option linter.all false
set_option maxRecDepth 100000
/-! DL4: operators at data: numbers, comparisons, equality, items, slices, len, tuple, list, sum, min, max, isinstance. -/
namespace DL
open PySem L2

section
variable {K : PySem.W.Frag} {X : Cx} {m : Bool} {W : WX}
theorem PGo.int {G H : Hp} {i : Int} {Q : VK} (s : Same G H) (h : PGo K G H (some (.int i)) Q) : Q (.int i) H := h.val s rfl
theorem PGo.bl {G H : Hp} {i : Bool} {Q : VK} (s : Same G H) (h : PGo K G H (some (.bl i)) Q) : Q (.bl i) H := h.val s rfl

/-! ### numbers -/
def iI (g : Int → Int → Int) : D → D → Option D
  | .int i, .int j => some (.int (g i j))
  | _, _ => none
def iB (g : Int → Int → Bool) : D → D → Option D
  | .int i, .int j => some (.bl (g i j))
  | _, _ => none
/-- under a condition -/
def iIc (c : Int → Int → Bool) (g : Int → Int → Int) : D → D → Option D
  | .int i, .int j => if c i j then some (.int (g i j)) else none
  | _, _ => none
theorem v_iI (g : Int → Int → Int) : Vop2 K (rI0 fun i j => .int (g i j)) (iI g) := by
  intro G H x y dx dy Q s hx hy h
  cases dx <;> cases dy <;> first | exact False.elim h | skip
  rename_i i j
  exact ⟨i, j, hx, hy, h.int s⟩
theorem v_iB (g : Int → Int → Bool) : Vop2 K (rI0 fun i j => .bl (g i j)) (iB g) := by
  intro G H x y dx dy Q s hx hy h
  cases dx <;> cases dy <;> first | exact False.elim h | skip
  rename_i i j
  exact ⟨i, j, hx, hy, h.bl s⟩
theorem v_iIc {C : Int → Int → Prop} {c : Int → Int → Bool} (hc : ∀ i j, c i j = true → C i j) (g : Int → Int → Int) : Vop2 K (rI C fun i j => .int (g i j)) (iIc c g) := by
  intro G H x y dx dy Q s hx hy h
  cases dx <;> cases dy <;> first | exact False.elim h | skip
  rename_i i j
  have h : PGo K G H (if c i j then some (.int (g i j)) else none) Q := h
  split at h
  · rename_i e
    exact ⟨i, j, hx, hy, hc i j e, h.int s⟩
  · exact False.elim h
def cMul (i j : Int) : Bool := (decide (-(2 ^ 64) < i) && decide (i < 2 ^ 64)) || (decide (-(2 ^ 64) < j) && decide (j < 2 ^ 64))
theorem cMul_ok (i j : Int) (h : cMul i j = true) : CMul i j := by
  simp only [cMul, Bool.or_eq_true, Bool.and_eq_true, decide_eq_true_eq] at h
  exact h
def cDiv (_ j : Int) : Bool := decide (0 < j) && decide (j < 1073741824)
theorem cDiv_ok (i j : Int) (h : cDiv i j = true) : CDiv i j := by
  simp only [cDiv, Bool.and_eq_true, decide_eq_true_eq] at h
  exact h
def cMod (_ j : Int) : Bool := decide (0 < j)
theorem cMod_ok (i j : Int) (h : cMod i j = true) : 0 < j := of_decide_eq_true h
def cPow (i j : Int) : Bool := decide (0 ≤ j) && decide (j ≤ 1000000) && decide (i.natAbs < 2 ^ 64)
theorem cPow_ok (i j : Int) (h : cPow i j = true) : CPow i j := by
  simp only [cPow, Bool.and_eq_true, decide_eq_true_eq] at h
  exact ⟨h.1.1, h.1.2, h.2⟩
abbrev oAdd := iI fun i j => i + j
abbrev oSub := iI fun i j => i - j
abbrev oMul := iIc cMul fun i j => i * j
abbrev oDiv := iIc cDiv fun i j => i / j
abbrev oMod := iIc cMod fun i j => i % j
abbrev oPow := iIc cPow fun i j => i ^ j.toNat
abbrev oLt := iB fun i j => decide (i < j)
abbrev oLe := iB fun i j => decide (i ≤ j)
abbrev oGt := iB fun i j => decide (j < i)
abbrev oGe := iB fun i j => decide (j ≤ i)
section
variable {a b : Expr} {φ ψ : DE} {pos : Pos}
theorem sd_add (ha : SD X m W a φ) (hb : SD X m W b ψ) : SD X m W (.BinOp a .Add b pos) (d2 oAdd φ ψ) := sd_op op_add (v_iI _) ha hb
theorem sd_sub (ha : SD X m W a φ) (hb : SD X m W b ψ) : SD X m W (.BinOp a .Sub b pos) (d2 oSub φ ψ) := sd_op op_sub (v_iI _) ha hb
theorem sd_mul (ha : SD X m W a φ) (hb : SD X m W b ψ) : SD X m W (.BinOp a .Mult b pos) (d2 oMul φ ψ) := sd_op op_mul (v_iIc cMul_ok _) ha hb
theorem sd_div (ha : SD X m W a φ) (hb : SD X m W b ψ) : SD X m W (.BinOp a .FloorDiv b pos) (d2 oDiv φ ψ) := sd_op op_fdiv (v_iIc cDiv_ok _) ha hb
theorem sd_mod (ha : SD X m W a φ) (hb : SD X m W b ψ) : SD X m W (.BinOp a .Mod b pos) (d2 oMod φ ψ) := sd_op op_mod (v_iIc cMod_ok _) ha hb
theorem sd_pow (ha : SD X m W a φ) (hb : SD X m W b ψ) : SD X m W (.BinOp a .Pow b pos) (d2 oPow φ ψ) := sd_op op_pow (v_iIc cPow_ok _) ha hb
theorem sd_lt (ha : SD X m W a φ) (hb : SD X m W b ψ) : SD X m W (.Compare a [.Lt] [b] pos) (d2 oLt φ ψ) := sd_cmp op_lt (v_iB _) ha hb (nomark _)
theorem sd_le (ha : SD X m W a φ) (hb : SD X m W b ψ) : SD X m W (.Compare a [.LtE] [b] pos) (d2 oLe φ ψ) := sd_cmp op_le (v_iB _) ha hb (nomark _)
theorem sd_gt (ha : SD X m W a φ) (hb : SD X m W b ψ) : SD X m W (.Compare a [.Gt] [b] pos) (d2 oGt φ ψ) := sd_cmp op_gt (v_iB _) ha hb (nomark _)
theorem sd_ge (ha : SD X m W a φ) (hb : SD X m W b ψ) : SD X m W (.Compare a [.GtE] [b] pos) (d2 oGe φ ψ) := sd_cmp op_ge (v_iB _) ha hb (nomark _)
end
def oNeg : D → Option D
  | .int i => some (.int (-i))
  | _ => none
theorem v_neg : Vop1 K (rU fun i => .int (-i)) oNeg := by
  intro G H x dx Q s hx h
  cases dx <;> first | exact False.elim h | skip
  rename_i i
  exact ⟨i, hx, h.int s⟩
theorem sd_neg {a : Expr} {φ : DE} {pos : Pos} (ha : SD X m W a φ) : SD X m W (.UnaryOp .USub a pos) (d1 oNeg φ) := sd_un un_neg v_neg ha

/-! ### is None -/
def D.isN : D → Bool
  | .non => true
  | _ => false
theorem den_isN {G : Hp} {d : D} {x : V} (h : Den K G d x) : decide (x = .non) = d.isN := by
  cases d with
  | non => cases h; rfl
  | bl _ => cases h; rfl
  | int _ => cases h; rfl
  | str _ => cases h; rfl
  | tup _ => obtain ⟨a, _, rfl, _⟩ := h; rfl
  | lst _ => obtain ⟨a, _, rfl, _⟩ := h; rfl
  | dK _ _ => obtain ⟨a, _, rfl, _⟩ := h; rfl
  | dT _ _ => obtain ⟨a, _, rfl, _⟩ := h; rfl
def oIsN (x y : D) : Option D := if y.isN then some (.bl x.isN) else none
def oNotN (x y : D) : Option D := if y.isN then some (.bl (!x.isN)) else none
theorem v_isN : Vop2 K (fun x y H Q => y = .non ∧ Q (.bl (decide (x = .non))) H) oIsN := by
  intro G H x y dx dy Q s hx hy h
  unfold oIsN at h
  split at h
  · rename_i e
    have ey := den_isN hy
    rw [e] at ey
    exact ⟨of_decide_eq_true ey, by rw [den_isN hx]; exact h.bl s⟩
  · exact False.elim h
theorem v_notN : Vop2 K (fun x y H Q => y = .non ∧ Q (.bl (!decide (x = .non))) H) oNotN := by
  intro G H x y dx dy Q s hx hy h
  unfold oNotN at h
  split at h
  · rename_i e
    have ey := den_isN hy
    rw [e] at ey
    exact ⟨of_decide_eq_true ey, by rw [den_isN hx]; exact h.bl s⟩
  · exact False.elim h
theorem sd_isN {a b : Expr} {φ ψ : DE} {pos : Pos} (ha : SD X m W a φ) (hb : SD X m W b ψ) : SD X m W (.Compare a [.Is] [b] pos) (d2 oIsN φ ψ) := sd_cmp op_isN v_isN ha hb (nomark _)
theorem sd_notN {a b : Expr} {φ ψ : DE} {pos : Pos} (ha : SD X m W a φ) (hb : SD X m W b ψ) : SD X m W (.Compare a [.IsNot] [b] pos) (d2 oNotN φ ψ) := sd_cmp op_notN v_notN ha hb (nomark _)

/-! ### equality of data -/
mutual
def D.py : D → PyData
  | .non => .none
  | .bl b => .bool b
  | .int i => .int i
  | .str s => .str s
  | .tup xs => .tuple (D.pys xs)
  | .lst xs => .list (D.pys xs)
  | .dK _ _ => .dict []
  | .dT _ _ => .dict []
def D.pys : List D → List PyData
  | [] => []
  | d :: ds => D.py d :: D.pys ds
end
theorem pys_map : ∀ ds : List D, D.pys ds = ds.map D.py
  | [] => rfl
  | d :: ds => by rw [D.pys, pys_map ds]; rfl
theorem canLayAll_mem {ds : List PyData} (h : PyData.canLayAll0 ds = true) : ∀ d ∈ ds, d.canLay0 = true := by
  induction ds with
  | nil => intro d hd; cases hd
  | cons x xs ih =>
    simp only [PyData.canLayAll0, Bool.and_eq_true] at h
    intro d hd
    rcases List.mem_cons.mp hd with rfl | hd
    · exact h.1
    · exact ih h.2 d hd
mutual
theorem Den.dp {G : Hp} : ∀ (d : D) (v : V), Den K G d v → d.py.canLay0 = true → Dp K G v d.py
  | .non, v, h, _ => by cases h; exact .non
  | .bl b, v, h, _ => by cases h; exact .bl b
  | .int i, v, h, _ => by cases h; exact .int i
  | .str s, v, h, _ => by cases h; exact .str s
  | .tup ds, v, h, c => by
    simp only [Den] at h
    obtain ⟨a, vs, rfl, h2, h3⟩ := h
    simp only [D.py, PyData.canLay0] at c
    exact .tup h2 (Dens.dp ds vs h3 c)
  | .lst ds, v, h, c => by
    simp only [Den] at h
    obtain ⟨a, vs, rfl, h2, h3⟩ := h
    simp only [D.py, PyData.canLay0] at c
    exact .lst h2 (Dens.dp ds vs h3 c)
  | .dK _ _, v, h, c => by simp [D.py, PyData.canLay0] at c
  | .dT _ _, v, h, c => by simp [D.py, PyData.canLay0] at c
theorem Dens.dp {G : Hp} : ∀ (ds : List D) (vs : List V), Dens K G ds vs → PyData.canLayAll0 (D.pys ds) = true → DpAll K G vs (D.pys ds)
  | [], vs, h, _ => by simp only [Dens] at h; subst h; exact .nil
  | d :: ds, vs, h, c => by
    simp only [Dens] at h
    obtain ⟨v, r, rfl, h2, h3⟩ := h
    simp only [D.pys, PyData.canLayAll0, Bool.and_eq_true] at c
    exact .cons (Den.dp d v h2 c.1) (Dens.dp ds r h3 c.2)
end
theorem sqT_same {G H : Hp} (s : Same G H) {a : Addr} {xs : List V} (h : SqT K G a xs) : SqT K H a xs := sqT_mono s h
mutual
theorem dp_mono {G H : Hp} (s : Same G H) : ∀ {v : V} {d : PyData}, Dp K G v d → Dp K H v d
  | _, _, .non => .non
  | _, _, .bl b => .bl b
  | _, _, .int i => .int i
  | _, _, .str x => .str x
  | _, _, .lst h a => .lst (s.seq h) (dpAll_mono s a)
  | _, _, .tup h a => .tup (sqT_mono s h) (dpAll_mono s a)
theorem dpAll_mono {G H : Hp} (s : Same G H) : ∀ {v : List V} {d : List PyData}, DpAll K G v d → DpAll K H v d
  | _, _, .nil => .nil
  | _, _, .cons a b => .cons (dp_mono s a) (dpAll_mono s b)
end
/-- fit for the rule of == -/
def D.shp (d : D) : Bool := SeqAt.shaped d.py
def D.eqv (x y : D) : Bool := PyData.eqv x.py y.py
def oEqD (x y : D) : Option D := if x.shp && y.shp then some (.bl (x.eqv y)) else none
def oNeD (x y : D) : Option D := if x.shp && y.shp then some (.bl (!x.eqv y)) else none
theorem v_eqD : Vop2 K (rEqD K) oEqD := by
  intro G H x y dx dy Q s hx hy h
  unfold oEqD at h
  split at h
  · rename_i e
    simp only [Bool.and_eq_true] at e
    exact ⟨dx.py, dy.py, dp_mono s (Den.dp dx x hx (SeqAt.canLay_of_shaped e.1)), dp_mono s (Den.dp dy y hy (SeqAt.canLay_of_shaped e.2)), e.1, e.2, h.bl s⟩
  · exact False.elim h
theorem v_neD : Vop2 K (rNeD K) oNeD := by
  intro G H x y dx dy Q s hx hy h
  unfold oNeD at h
  split at h
  · rename_i e
    simp only [Bool.and_eq_true] at e
    exact ⟨dx.py, dy.py, dp_mono s (Den.dp dx x hx (SeqAt.canLay_of_shaped e.1)), dp_mono s (Den.dp dy y hy (SeqAt.canLay_of_shaped e.2)), e.1, e.2, h.bl s⟩
  · exact False.elim h
/-- == of two numbers, or of two texts, or of two bools; the common case, without conditions -/
def oEq : D → D → Option D
  | .int i, .int j => some (.bl (decide (i = j)))
  | .str x, .str y => some (.bl (decide (x = y)))
  | .bl x, .bl y => some (.bl (decide (x = y)))
  | .non, .non => some (.bl true)
  | .non, .int _ => some (.bl false)
  | .int _, .non => some (.bl false)
  | .non, .str _ => some (.bl false)
  | .str _, .non => some (.bl false)
  | .int _, .str _ => some (.bl false)
  | .str _, .int _ => some (.bl false)
  | _, _ => none
def oNe : D → D → Option D
  | .int i, .int j => some (.bl (!decide (i = j)))
  | .str x, .str y => some (.bl (!decide (x = y)))
  | .bl x, .bl y => some (.bl (!decide (x = y)))
  | .non, .non => some (.bl false)
  | .non, .int _ => some (.bl true)
  | .int _, .non => some (.bl true)
  | .non, .str _ => some (.bl true)
  | .str _, .non => some (.bl true)
  | .int _, .str _ => some (.bl true)
  | .str _, .int _ => some (.bl true)
  | _, _ => none
theorem v_eq : Vop2 K rEq oEq := by
  intro G H x y dx dy Q s hx hy h
  cases dx <;> cases dy <;> first | exact False.elim h | skip
  all_goals (cases hx; cases hy; refine ⟨rfl, ?_⟩; have h := h.bl s; first | exact h | simpa using h)
theorem v_ne : Vop2 K rNe oNe := by
  intro G H x y dx dy Q s hx hy h
  cases dx <;> cases dy <;> first | exact False.elim h | skip
  all_goals (cases hx; cases hy; refine ⟨rfl, ?_⟩; have h := h.bl s; first | exact h | simpa using h)
section
variable {a b : Expr} {φ ψ : DE} {pos : Pos}
theorem sd_eq (ha : SD X m W a φ) (hb : SD X m W b ψ) : SD X m W (.Compare a [.Eq] [b] pos) (d2 oEq φ ψ) := sd_cmp op_eq v_eq ha hb (nomark _)
theorem sd_ne (ha : SD X m W a φ) (hb : SD X m W b ψ) : SD X m W (.Compare a [.NotEq] [b] pos) (d2 oNe φ ψ) := sd_cmp op_ne v_ne ha hb (nomark _)
theorem sd_eqD {k : Nat} (hr : Room k X.A) (ha : SD X m W a φ) (hb : SD X m W b ψ) : SD X m W (.Compare a [.Eq] [b] pos) (d2 oEqD φ ψ) := sd_cmp (op_eqD hr.units) v_eqD ha hb (nomark _)
theorem sd_neD {k : Nat} (hr : Room k X.A) (ha : SD X m W a φ) (hb : SD X m W b ψ) : SD X m W (.Compare a [.NotEq] [b] pos) (d2 oNeD φ ψ) := sd_cmp (op_neD hr.units) v_neD ha hb (nomark _)
end

/-! ### items -/
theorem ixN_lt {n : Nat} {i : Int} {j : Nat} (h : ixN n i = some j) : j < n := (ixN_seq h).2.1
theorem atI_den {G : Hp} {ds : List D} {vs : List V} {i : Int} {d : D} (h : Dens K G ds vs) (e : atI ds i = some d) : ∃ v, atI vs i = some v ∧ Den K G d v := by
  unfold atI at e ⊢
  rw [h.length]
  cases q : ixN ds.length i with
  | none => rw [q] at e; cases e
  | some j =>
    rw [q] at e
    exact h.get (by simpa using e)
def oIx : D → D → Option D
  | .lst xs, .int i => atI xs i
  | .tup xs, .int i => atI xs i
  | .str z, .int i => if sizeOk z.length then (atI z.cps.toList i).map fun c => .str ⟨#[c]⟩ else none
  | _, _ => none
theorem v_ix : Vop2 K (rIx K) oIx := by
  intro G H x y dx dy Q s hx hy h
  cases dx <;> cases dy <;> first | exact False.elim h | skip
  case str.int z i =>
    replace h : PGo K G H (if sizeOk z.length then (atI z.cps.toList i).map fun c => .str ⟨#[c]⟩ else none) Q := h
    split at h
    · rename_i hz
      cases e : atI z.cps.toList i with
      | none => rw [e] at h; exact False.elim h
      | some c =>
        rw [e] at h
        exact .inr (.inr ⟨z, i, c, hx, hy, sizeOk_le hz, e, h.val s rfl⟩)
    · exact False.elim h
  case tup.int xs i =>
    replace h : PGo K G H (atI xs i) Q := h
    cases e : atI xs i with
    | none => rw [e] at h; exact False.elim h
    | some d =>
      rw [e] at h
      obtain ⟨a, vs, rfl, h2, h3⟩ := hx
      obtain ⟨v, hv, hd⟩ := atI_den h3 e
      exact .inr (.inl ⟨a, vs, i, v, rfl, hy, sqT_mono s h2, hv, h.val s hd⟩)
  case lst.int xs i =>
    replace h : PGo K G H (atI xs i) Q := h
    cases e : atI xs i with
    | none => rw [e] at h; exact False.elim h
    | some d =>
      rw [e] at h
      obtain ⟨a, vs, rfl, h2, h3⟩ := hx
      obtain ⟨v, hv, hd⟩ := atI_den h3 e
      exact .inl ⟨a, vs, i, v, rfl, hy, s.seq h2, hv, h.val s hd⟩
theorem sd_item {a b : Expr} {φ ψ : DE} {pos : Pos} (ha : SD X m W a φ) (hb : SD X m W b ψ) (hs : PlainIx b) : SD X m W (.Subscript a b pos) (d2 oIx φ ψ) := sd_ix ix_seq v_ix ha hb hs

/-! ### slices -/
def cutD {α : Type} (xs : List α) (lo hi : Option Int) : List α := (xs.drop (HT.sIx xs.length 0 lo)).take (HT.sIx xs.length xs.length hi - HT.sIx xs.length 0 lo)
theorem cut_den {G : Hp} {ds : List D} {vs : List V} (h : Dens K G ds vs) (lo hi : Option Int) : Dens K G (cutD ds lo hi) (cutV vs lo hi) := by
  unfold cutD cutV
  rw [h.length]
  exact (h.drop _).take _
end
end DL
end
section
set_option Elab.async false
set_option linter.all false
set_option maxRecDepth 100000
/-! DL5: slices, len, tuple, list, sum, min, max, isinstance, enumerate and zip over tuples: rules of my own where the layer lacks one. -/
namespace HT
open PySem PySem.Spec PyProof.Rows
section
variable {prog : Program} {w : World} {A : Around} {E : Value → Shared → Prop} {s : Shared}
/-- t[lo:hi] that is the whole of t: t itself -/
theorem getItem_tuple_whole {t sl : Addr} {items : Array Value} {vl vu : Value} {lo hi : Option Int} {Q : Value → Shared → Prop} (ht : IsTup s.heap t items) (hs : s.heap.IsSliceOf sl vl vu .none) (pl : IsPart vl lo) (pu : IsPart vu hi)
    (hw : sIx items.size 0 lo = 0 ∧ sIx items.size items.size hi = items.size) (h : Q (.ref t) s) : wpAny (model prog w) A (getItem (.ref t) (.ref sl)) Q E s := by
  obtain ⟨os, hos, hcs, hds⟩ := id hs
  have hTs : s.TypeIs (.ref sl) "slice" := ⟨os, hos, hcs⟩
  unfold getItem
  try with_reducible refine wpAny_holding ?_
  first | refine wpAny_bind (wpAny_pure ?_) | skip
  refine wpAny_bind (wpAny_sequenceKey ht.typeIs (by decide) ?_)
  refine wpAny_bind (wpAny_callSpecial?_slot (name := Str.ofString "__getitem__") ht.typeIs PyProof.Rows.slot_tuple_getitem
    (wpAny_call_entry PyProof.Rows.slot_tuple_getitem ht.typeIs entry_tuple_getitem ?_ (args_tuple_getitem _ _)))
  show wpAny _ _ (Builtin.Tuple.tupleItemsOf (.ref t) >>= _) _ _ s
  refine wpAny_bind (tupleItemsOf_ ht ?_)
  refine wpAny_bind (wpAny_typeOf hTs ?_)
  rw [if_pos (by decide)]
  refine wpAny_bind (sliceApplied_gen hs pl pu ?_)
  have hyes : (((sIx items.size 0 lo : Nat) : Int) == 0 && (1 : Int) == 1 && (sIx items.size items.size hi - sIx items.size 0 lo) == items.size) = true := by
    rw [hw.1, hw.2]; simp
  show wpAny _ _ (if (((sIx items.size 0 lo : Nat) : Int) == 0 && (1 : Int) == 1 && (sIx items.size items.size hi - sIx items.size 0 lo) == items.size) = true then _ else _) _ _ s
  rw [if_pos hyes]
  have hex : ∀ (A' : Around) (E' : Value → Shared → Prop), wpAny (model prog w) A' (Builtin.Tuple.tupleIsExact (.ref t)) (fun b s' => b = true ∧ s' = s) E' s := fun A' E' => by
    unfold Builtin.Tuple.tupleIsExact
    exact wpAny_bind (wpAny_typeOf ht.typeIs (wpAny_pure ⟨by decide, rfl⟩))
  refine wpAny_bind (wpAny_mono (hex _ _) (fun b s' hb => ?_) fun _ _ x => x)
  obtain ⟨rfl, rfl⟩ := hb
  rw [if_pos rfl]
  first
    | exact wpAny_bind (wpAny_rule (wpAny_bind (wpAny_pure (wpAny_pure ⟨_, rfl, wpAny_pure h⟩))))
    | exact wpAny_bind (wpAny_rule (wpAny_pure ⟨_, rfl, wpAny_pure h⟩))
    | exact wpAny_bind (wpAny_rule (wpAny_bind (wpAny_pure ⟨_, rfl, wpAny_pure h⟩)))
end
end HT
namespace DL
open PySem L2
section
variable {K : PySem.W.Frag} {X : Cx} {m : Bool} {W : WX}
def rSlTw (K : PySem.W.Frag) : V → Option Int → Option Int → Hp → VK → Prop := fun x lo hi H Q => ∃ a xs, x = .ref a ∧ SqT K H a xs ∧
  (HT.sIx xs.length 0 lo = 0 ∧ HT.sIx xs.length xs.length hi = xs.length) ∧ Q (.ref a) H
theorem sl_tupW : SlR X (rSlTw X.K) := by
  intro pins s σ H x v vl vu lo hi sl Q I rx hs pl pu h
  obtain ⟨a, xs, rfl, hx, hw, q⟩ := h
  cases rx
  obtain ⟨its, r, ht, hz⟩ := I.tuple hx
  have hlen : its.toArray.size = xs.length := by rw [List.size_toArray]; exact r.length.symm
  refine ⟨"tuple", _, PyProof.Rows.slot_tuple_getitem.lookup, ht.typeIs, ?_⟩
  exact HT.getItem_tuple_whole ht hs pl pu (by rw [hlen]; exact hw) ⟨.ref a, H, I, rfl, q⟩
def rSlAny (K : PySem.W.Frag) : V → Option Int → Option Int → Hp → VK → Prop := fun x lo hi H Q => (rSlL K x lo hi H Q ∨ rSlT K x lo hi H Q) ∨ (rSlTw K x lo hi H Q ∨ rSlS x lo hi H Q)
theorem sl_any : SlR X (rSlAny X.K) := (sl_list.or sl_tup).or (sl_tupW.or sl_str)
def oSl : D → Option Int → Option Int → Option D
  | .lst xs, lo, hi => some (.lst (cutD xs lo hi))
  | .tup xs, lo, hi => some (.tup (cutD xs lo hi))
  | .str z, lo, hi => if sizeOk z.length then some (.str (cutS z lo hi)) else none
  | _, _, _ => none
theorem v_sl : Vsl K (rSlAny K) oSl := by
  intro G H x lo hi dx Q s hx h
  cases dx <;> first | exact False.elim h | skip
  case str z =>
    replace h : PGo K G H (if sizeOk z.length then some (.str (cutS z lo hi)) else none) Q := h
    split at h
    · rename_i hz
      exact .inr (.inr ⟨z, hx, sizeOk_le hz, h.val s rfl⟩)
    · exact False.elim h
  case tup xs =>
    obtain ⟨a, vs, rfl, h2, h3⟩ := hx
    replace h : PGo K G H (some (.tup (cutD xs lo hi))) Q := h
    by_cases w : HT.sIx vs.length 0 lo = 0 ∧ HT.sIx vs.length vs.length hi = vs.length
    · refine .inr (.inl ⟨a, vs, rfl, sqT_mono s h2, w, ?_⟩)
      have e : cutD xs lo hi = xs := by
        rw [h3.length] at w
        unfold cutD
        rw [w.1, w.2]
        simp
      rw [e] at h
      exact h.val s ⟨a, vs, rfl, h2, h3⟩
    · refine .inl (.inr ⟨a, vs, rfl, sqT_mono s h2, w, fun p hp => ?_⟩)
      have g := Gr.new (o := .tup (cutV vs lo hi)) s hp
      exact h _ _ _ g ⟨p, _, rfl, SqT.of upd_same, cut_den (Dens.mono g.g _ _ h3) lo hi⟩
  case lst xs =>
    obtain ⟨a, vs, rfl, h2, h3⟩ := hx
    refine .inl (.inl ⟨a, vs, rfl, s.seq h2, fun p hp => ?_⟩)
    replace h : PGo K G H (some (.lst (cutD xs lo hi))) Q := h
    have g := Gr.new (o := .lst (cutV vs lo hi)) s hp
    exact h _ _ _ g ⟨p, _, rfl, SqL.of upd_same, cut_den (Dens.mono g.g _ _ h3) lo hi⟩
theorem sd_sl {e : Expr} {lo hi : Option Expr} {φ : DE} {l u : DO} {pos p2 : Pos} (he : SD X m W e φ) (hl : SO X m W lo l) (hu : SO X m W hi u) : SD X m W (.Subscript e (.Slice lo hi none p2) pos) (dSl oSl φ l u) := sd_slice sl_any v_sl he hl hu

/-! ### calls of built-ins on one argument -/
def one (f : D → Option D) : List D → Option D
  | [d] => f d
  | _ => none
theorem dens1 {G : Hp} {ds : List D} {vs : List V} {f : D → Option D} {H : Hp} {Q : VK} (h : Dens K G ds vs) (q : PGo K G H (one f ds) Q) : ∃ d v, vs = [v] ∧ Den K G d v ∧ PGo K G H (f d) Q := by
  cases ds with
  | nil => exact False.elim q
  | cons d r =>
    cases r with
    | nil =>
      obtain ⟨v, r, rfl, h2, h3⟩ := h
      simp only [Dens] at h3
      subst h3
      exact ⟨d, v, rfl, h2, q⟩
    | cons _ _ => exact False.elim q
def two (f : D → D → Option D) : List D → Option D
  | [d, e] => f d e
  | _ => none
theorem dens2 {G : Hp} {ds : List D} {vs : List V} {f : D → D → Option D} {H : Hp} {Q : VK} (h : Dens K G ds vs) (q : PGo K G H (two f ds) Q) : ∃ d e v w, vs = [v, w] ∧ Den K G d v ∧ Den K G e w ∧ PGo K G H (f d e) Q := by
  cases ds with
  | nil => exact False.elim q
  | cons d r =>
    cases r with
    | nil => exact False.elim q
    | cons e r =>
      cases r with
      | nil =>
        obtain ⟨v, r, rfl, h2, w, r2, rfl, h3, h4⟩ := h
        simp only [Dens] at h4
        subst h4
        exact ⟨d, e, v, w, rfl, h2, h3, q⟩
      | cons _ _ => exact False.elim q
def oLen : D → Option D
  | .lst xs => some (.int xs.length)
  | .tup xs => some (.int xs.length)
  | .str z => if sizeOk z.length then some (.int z.length) else none
  | _ => none
def rLenA (K : PySem.W.Frag) : List V → Hp → VK → Prop := fun xs H Q => (∃ p ys, xs = [.ref p] ∧ (SqL K H p ys ∨ SqT K H p ys) ∧ Q (.int ys.length) H) ∨ (∃ z, xs = [.str z] ∧ z.length ≤ sizeLine ∧ Q (.int z.length) H)
theorem call_lenA : CallR X (.builtin "len") (rLenA X.K) := call_len_seq.or call_len_str
theorem v_len : Vops K (rLenA K) (one oLen) := by
  intro G H vs ds Q s hd h
  obtain ⟨d, v, rfl, hd, h⟩ := dens1 hd h
  cases d <;> first | exact False.elim h | skip
  case str z =>
    replace h : PGo K G H (if sizeOk z.length then some (.int z.length) else none) Q := h
    split at h
    · rename_i hz
      cases hd
      exact .inr ⟨z, rfl, sizeOk_le hz, h.val s rfl⟩
    · exact False.elim h
  case tup xs =>
    obtain ⟨a, vs, rfl, h2, h3⟩ := hd
    refine .inl ⟨a, vs, rfl, .inr (sqT_mono s h2), ?_⟩
    rw [h3.length]
    exact PGo.int s h
  case lst xs =>
    obtain ⟨a, vs, rfl, h2, h3⟩ := hd
    refine .inl ⟨a, vs, rfl, .inl (s.seq h2), ?_⟩
    rw [h3.length]
    exact PGo.int s h
def oTuple : D → Option D
  | .lst xs => some (.tup xs)
  | .tup xs => some (.tup xs)
  | _ => none
theorem v_tuple : Vops K (fun xs H Q => ∃ p ys, xs = [.ref p] ∧ ((SqL K H p ys ∧ ∀ l, H l = none → Q (.ref l) (upd H l (.tup ys))) ∨ (SqT K H p ys ∧ Q (.ref p) H))) (one oTuple) := by
  intro G H vs ds Q s hd h
  obtain ⟨d, v, rfl, hd, h⟩ := dens1 hd h
  cases d <;> first | exact False.elim h | skip
  case tup xs =>
    obtain ⟨a, vs, rfl, h2, h3⟩ := hd
    exact ⟨a, vs, rfl, .inr ⟨sqT_mono s h2, PGo.val s h ⟨a, vs, rfl, h2, h3⟩⟩⟩
  case lst xs =>
    obtain ⟨a, vs, rfl, h2, h3⟩ := hd
    refine ⟨a, vs, rfl, .inl ⟨s.seq h2, fun l hl => ?_⟩⟩
    have g := Gr.new (o := .tup vs) s hl
    replace h : PGo K G H (some (.tup xs)) Q := h
    exact h _ _ _ g ⟨l, _, rfl, SqT.of upd_same, Dens.mono g.g _ _ h3⟩
def oList : D → Option D
  | .lst xs => some (.lst xs)
  | .tup xs => some (.lst xs)
  | _ => none
theorem v_list : Vops K (fun xs H Q => ∃ p ys, xs = [.ref p] ∧ (SqL K H p ys ∨ SqT K H p ys) ∧ ∀ l, H l = none → Q (.ref l) (upd H l (.lst ys))) (one oList) := by
  intro G H vs ds Q s hd h
  obtain ⟨d, v, rfl, hd, h⟩ := dens1 hd h
  cases d <;> first | exact False.elim h | skip
  case tup xs =>
    obtain ⟨a, vs, rfl, h2, h3⟩ := hd
    refine ⟨a, vs, rfl, .inr (sqT_mono s h2), fun l hl => ?_⟩
    have g := Gr.new (o := .lst vs) s hl
    replace h : PGo K G H (some (.lst xs)) Q := h
    exact h _ _ _ g ⟨l, _, rfl, SqL.of upd_same, Dens.mono g.g _ _ h3⟩
  case lst xs =>
    obtain ⟨a, vs, rfl, h2, h3⟩ := hd
    refine ⟨a, vs, rfl, .inl (s.seq h2), fun l hl => ?_⟩
    have g := Gr.new (o := .lst vs) s hl
    replace h : PGo K G H (some (.lst xs)) Q := h
    exact h _ _ _ g ⟨l, _, rfl, SqL.of upd_same, Dens.mono g.g _ _ h3⟩
def oInt : D → Option D
  | .int i => some (.int i)
  | .bl k => some (.int (if k then 1 else 0))
  | _ => none
theorem v_int : Vops K (fun xs H Q => (∃ i, xs = [.int i] ∧ Q (.int i) H) ∨ ∃ k, xs = [.bl k] ∧ Q (.int (if k then 1 else 0)) H) (one oInt) := by
  intro G H vs ds Q s hd h
  obtain ⟨d, v, rfl, hd, h⟩ := dens1 hd h
  cases d <;> first | exact False.elim h | skip
  case bl k => cases hd; exact .inr ⟨k, rfl, PGo.int s h⟩
  case int i => cases hd; exact .inl ⟨i, rfl, PGo.int s h⟩
def oAbs : D → Option D
  | .int i => some (.int (if i < 0 then -i else i))
  | _ => none
theorem v_abs : Vops K (fun xs H Q => ∃ i, xs = [.int i] ∧ Q (.int (if i < 0 then -i else i)) H) (one oAbs) := by
  intro G H vs ds Q s hd h
  obtain ⟨d, v, rfl, hd, h⟩ := dens1 hd h
  cases d <;> first | exact False.elim h | skip
  case int i => cases hd; exact ⟨i, rfl, PGo.int s h⟩
theorem v_max2 : Vops K (fun xs H Q => ∃ i j, xs = [.int i, .int j] ∧ Q (.int (if j > i then j else i)) H) (two (iI fun i j => if j > i then j else i)) := by
  intro G H vs ds Q s hd h
  obtain ⟨d, e, v, w, rfl, hd, he, h⟩ := dens2 hd h
  cases d <;> cases e <;> first | exact False.elim h | skip
  cases hd; cases he; exact ⟨_, _, rfl, PGo.int s h⟩
theorem v_min2 : Vops K (fun xs H Q => ∃ i j, xs = [.int i, .int j] ∧ Q (.int (if j < i then j else i)) H) (two (iI fun i j => if j < i then j else i)) := by
  intro G H vs ds Q s hd h
  obtain ⟨d, e, v, w, rfl, hd, he, h⟩ := dens2 hd h
  cases d <;> cases e <;> first | exact False.elim h | skip
  cases hd; cases he; exact ⟨_, _, rfl, PGo.int s h⟩
/-- the numbers of data -/
def ilist : List D → Option (List Int)
  | [] => some []
  | .int i :: r => (ilist r).map (i :: ·)
  | _ :: _ => none
@[simp] theorem ilist_map : ∀ ns : List Int, ilist (ns.map D.int) = some ns
  | [] => rfl
  | n :: ns => by simp [ilist, ilist_map ns]
theorem ilist_of : ∀ {ds : List D} {ns : List Int}, ilist ds = some ns → ds = ns.map D.int
  | [], ns, h => by simp [ilist] at h; subst h; rfl
  | d :: ds, ns, h => by
    cases d <;> simp only [ilist, Option.map_eq_some_iff] at h <;> first | (cases h; done) | skip
    obtain ⟨r, h, rfl⟩ := h
    rw [ilist_of h]; rfl
theorem dens_ints {G : Hp} : ∀ {ns : List Int} {vs : List V}, Dens K G (ns.map D.int) vs → vs = ns.map V.int
  | [], vs, h => by simpa [Dens] using h
  | n :: ns, vs, h => by
    obtain ⟨v, r, rfl, h2, h3⟩ := h
    cases h2
    rw [dens_ints h3]; rfl
def rSumT (K : PySem.W.Frag) : List V → Hp → VK → Prop := fun vs H Q => ∃ (a : Addr) (ns : List Int), vs = [V.ref a] ∧ SqT K H a (ns.map V.int) ∧ Q (.int ns.sum) H
theorem cr_sumT (hc : X.calm = true) : CallR X (.builtin "sum") (rSumT X.K) := by
  intro pins s σ H vs us Q I r h
  obtain ⟨a, ns, rfl, hs, q⟩ := h
  obtain ⟨its, rv, ht, _⟩ := I.tuple hs
  rw [Vals.ref1 r]
  obtain ⟨xs, e⟩ := rv.ints.allInts.items
  have hn : numsOf (intItems xs).toList = ns := by rw [← e]; exact rv.ints.numsOf
  rw [nums_intItems] at hn
  rw [e] at ht
  refine PySem.W.ktm_sumG (I.ok.hd hc) ht fun h' tk t' hk => ?_
  rw [preSum_eq, List.take_of_length_le (by simp), hn]
  exact ⟨.int _, H, I.kept hk, ⟨_, rfl⟩, q⟩
def rSumA (K : PySem.W.Frag) : List V → Hp → VK → Prop := fun vs H Q => rSum K vs H Q ∨ rSumT K vs H Q
theorem call_sumA (hc : X.calm = true) : CallR X (.builtin "sum") (rSumA X.K) := (cr_sum hc).or (cr_sumT hc)
def oSum : D → Option D
  | .lst xs => (ilist xs).map fun ns => .int ns.sum
  | .tup xs => (ilist xs).map fun ns => .int ns.sum
  | _ => none
theorem v_sum : Vops K (rSumA K) (one oSum) := by
  intro G H vs ds Q s hd h
  obtain ⟨d, v, rfl, hd, h⟩ := dens1 hd h
  cases d <;> first | exact False.elim h | skip
  case tup xs =>
    obtain ⟨a, vs, rfl, h2, h3⟩ := hd
    replace h : PGo K G H ((ilist xs).map fun ns => .int ns.sum) Q := h
    cases e : ilist xs with
    | none => rw [e] at h; exact False.elim h
    | some ns =>
      rw [e] at h
      cases ilist_of e
      cases dens_ints h3
      exact .inr ⟨a, ns, rfl, sqT_mono s h2, PGo.int s h⟩
  case lst xs =>
    obtain ⟨a, vs, rfl, h2, h3⟩ := hd
    replace h : PGo K G H ((ilist xs).map fun ns => .int ns.sum) Q := h
    cases e : ilist xs with
    | none => rw [e] at h; exact False.elim h
    | some ns =>
      rw [e] at h
      cases ilist_of e
      cases dens_ints h3
      exact .inl ⟨a, ns, rfl, s.seq h2, PGo.int s h⟩
/-- the greatest, the least number of a list -/
def maxI : List Int → Option Int
  | [] => none
  | x :: xs => some (xs.foldl max x)
def minI : List Int → Option Int
  | [] => none
  | x :: xs => some (xs.foldl min x)
theorem foldl_max_le : ∀ (xs : List Int) (x : Int), x ≤ xs.foldl max x ∧ ∀ y ∈ xs, y ≤ xs.foldl max x
  | [], x => ⟨Int.le_refl _, fun y hy => nomatch hy⟩
  | z :: xs, x => by
    have h := foldl_max_le xs (max x z)
    refine ⟨by simp only [List.foldl_cons]; omega, fun y hy => ?_⟩
    simp only [List.foldl_cons]
    rcases List.mem_cons.mp hy with rfl | hy
    · omega
    · exact h.2 y hy
theorem foldl_max_mem : ∀ (xs : List Int) (x : Int), xs.foldl max x = x ∨ xs.foldl max x ∈ xs
  | [], x => .inl rfl
  | z :: xs, x => by
    simp only [List.foldl_cons]
    rcases foldl_max_mem xs (max x z) with h | h
    · rw [h]
      by_cases q : x ≤ z
      · exact .inr (by rw [show max x z = z by omega]; exact List.mem_cons_self)
      · exact .inl (by omega)
    · exact .inr (List.mem_cons_of_mem _ h)
theorem foldl_min_le : ∀ (xs : List Int) (x : Int), xs.foldl min x ≤ x ∧ ∀ y ∈ xs, xs.foldl min x ≤ y
  | [], x => ⟨Int.le_refl _, fun y hy => nomatch hy⟩
  | z :: xs, x => by
    have h := foldl_min_le xs (min x z)
    refine ⟨by simp only [List.foldl_cons]; omega, fun y hy => ?_⟩
    simp only [List.foldl_cons]
    rcases List.mem_cons.mp hy with rfl | hy
    · omega
    · exact h.2 y hy
theorem foldl_min_mem : ∀ (xs : List Int) (x : Int), xs.foldl min x = x ∨ xs.foldl min x ∈ xs
  | [], x => .inl rfl
  | z :: xs, x => by
    simp only [List.foldl_cons]
    rcases foldl_min_mem xs (min x z) with h | h
    · rw [h]
      by_cases q : z ≤ x
      · exact .inr (by rw [show min x z = z by omega]; exact List.mem_cons_self)
      · exact .inl (by omega)
    · exact .inr (List.mem_cons_of_mem _ h)
theorem maxI_eq {ns : List Int} {m k : Int} (h : maxI ns = some k) (h1 : m ∈ ns) (h2 : ∀ y ∈ ns, y ≤ m) : m = k := by
  cases ns with
  | nil => cases h1
  | cons x xs =>
    simp only [maxI, Option.some.injEq] at h
    have a := foldl_max_le xs x
    have b : k ∈ x :: xs := by
      rcases foldl_max_mem xs x with q | q
      · rw [← h, q]; exact List.mem_cons_self
      · rw [← h]; exact List.mem_cons_of_mem _ q
    have c := h2 k b
    have d : m ≤ k := by
      rcases List.mem_cons.mp h1 with rfl | q
      · rw [← h]; exact a.1
      · rw [← h]; exact a.2 m q
    omega
theorem minI_eq {ns : List Int} {m k : Int} (h : minI ns = some k) (h1 : m ∈ ns) (h2 : ∀ y ∈ ns, m ≤ y) : m = k := by
  cases ns with
  | nil => cases h1
  | cons x xs =>
    simp only [minI, Option.some.injEq] at h
    have a := foldl_min_le xs x
    have b : k ∈ x :: xs := by
      rcases foldl_min_mem xs x with q | q
      · rw [← h, q]; exact List.mem_cons_self
      · rw [← h]; exact List.mem_cons_of_mem _ q
    have c := h2 k b
    have d : k ≤ m := by
      rcases List.mem_cons.mp h1 with rfl | q
      · rw [← h]; exact a.1
      · rw [← h]; exact a.2 m q
    omega
def oMax : D → Option D
  | .lst xs => (ilist xs).bind fun ns => (maxI ns).map .int
  | _ => none
def oMin : D → Option D
  | .lst xs => (ilist xs).bind fun ns => (minI ns).map .int
  | _ => none
theorem v_max : Vops K (rMax K) (one oMax) := by
  intro G H vs ds Q s hd h
  obtain ⟨d, v, rfl, hd, h⟩ := dens1 hd h
  cases d <;> first | exact False.elim h | skip
  case lst xs =>
    obtain ⟨a, vs, rfl, h2, h3⟩ := hd
    replace h : PGo K G H ((ilist xs).bind fun ns => (maxI ns).map .int) Q := h
    cases e : ilist xs with
    | none => rw [e] at h; exact False.elim h
    | some ns =>
      rw [e] at h
      simp only [Option.bind_some] at h
      cases ilist_of e
      cases dens_ints h3
      cases e2 : maxI ns with
      | none => rw [e2] at h; exact False.elim h
      | some k =>
        rw [e2] at h
        refine ⟨a, ns, rfl, s.seq h2, ?_, fun m h1 h4 => ?_⟩
        · cases ns with
          | nil => cases e2
          | cons _ _ => simp
        · rw [maxI_eq e2 h1 h4]; exact PGo.int s h
theorem v_min : Vops K (rMin K) (one oMin) := by
  intro G H vs ds Q s hd h
  obtain ⟨d, v, rfl, hd, h⟩ := dens1 hd h
  cases d <;> first | exact False.elim h | skip
  case lst xs =>
    obtain ⟨a, vs, rfl, h2, h3⟩ := hd
    replace h : PGo K G H ((ilist xs).bind fun ns => (minI ns).map .int) Q := h
    cases e : ilist xs with
    | none => rw [e] at h; exact False.elim h
    | some ns =>
      rw [e] at h
      simp only [Option.bind_some] at h
      cases ilist_of e
      cases dens_ints h3
      cases e2 : minI ns with
      | none => rw [e2] at h; exact False.elim h
      | some k =>
        rw [e2] at h
        refine ⟨a, ns, rfl, s.seq h2, ?_, fun m h1 h4 => ?_⟩
        · cases ns with
          | nil => cases e2
          | cons _ _ => simp
        · rw [minI_eq e2 h1 h4]; exact PGo.int s h

/-! ### isinstance with a built-in class -/
def D.tyN : D → String
  | .non => "NoneType" | .bl _ => "bool" | .int _ => "int" | .str _ => "str" | .tup _ => "tuple" | .lst _ => "list" | .dK _ _ => "dict" | .dT _ _ => "dict"
def isT (T : String) : D → Bool
  | .non => false
  | .bl _ => T == "bool" || T == "int"
  | .int _ => T == "int"
  | .str _ => T == "str"
  | .tup _ => T == "tuple"
  | .lst _ => T == "list"
  | .dK _ _ => T == "dict"
  | .dT _ _ => T == "dict"
theorem rd_same {G H : Hp} (s : Same G H) {a : Addr} {o : HO} (h : Rd G a o) : Rd H a o := h.imp (s _ _) fun ⟨u, e⟩ => ⟨u, s _ _ e⟩
theorem Den.tyx {G H : Hp} (s : Same G H) {d : D} {v : V} (h : Den K G d v) : TyX K H v (.type d.tyN) := by
  cases d with
  | non => cases h; exact .base .non
  | bl b => cases h; exact .base (.bl b)
  | int i => cases h; exact .base (.int i)
  | str z => cases h; exact .base (.str z)
  | tup xs =>
    obtain ⟨a, vs, rfl, h2, h3⟩ := h
    rcases sqT_mono s h2 with (h2 | ⟨o, h2⟩) | ⟨o, its, n, h2, h4, _⟩
    · exact .base (.tup h2)
    · exact .fTuple h2
    · exact .kTuple h2 h4
  | lst xs =>
    obtain ⟨a, vs, rfl, h2, h3⟩ := h
    rcases s.seq h2 with (h2 | ⟨o, h2⟩) | ⟨o, its, n, h2, h4, _⟩
    · exact .base (.lst h2)
    · exact .base (.frz h2)
    · exact .kList h2 h4
  | dK ks xs => obtain ⟨a, vs, rfl, h2, h3⟩ := h; exact .base (.dK (s _ _ h2))
  | dT ks xs => obtain ⟨a, vs, rfl, h2, h3⟩ := h; exact .base (.dT (s _ _ h2))
/-- the table that isinstance of data reads: T's row of kitB -/
def kitRow (T : String) : Bool :=
  decide (kitB "NoneType" T = some (isT T .non)) && decide (kitB "bool" T = some (isT T (.bl true))) && decide (kitB "int" T = some (isT T (.int 0))) && decide (kitB "str" T = some (isT T (.str Str.empty))) &&
  decide (kitB "tuple" T = some (isT T (.tup []))) && decide (kitB "list" T = some (isT T (.lst []))) && decide (kitB "dict" T = some (isT T (.dK [] [])))
theorem kit_row {T : String} (h : kitRow T = true) (d : D) : kitB d.tyN T = some (isT T d) := by
  simp only [kitRow, Bool.and_eq_true, decide_eq_true_eq] at h
  obtain ⟨⟨⟨⟨⟨⟨h1, h2⟩, h3⟩, h4⟩, h5⟩, h6⟩, h7⟩ := h
  cases d <;> first | exact h1 | exact h2 | exact h3 | exact h4 | exact h5 | exact h6 | exact h7
def oIsT (T : String) (d : D) : Option D := some (.bl (isT T d))
/-- isinstance(e, T), T the name of a built-in class -/
theorem sd_isi {e : Expr} {φ : DE} {T : String} {x : Str} {p p2 pos : Pos} (hk : kitRow T = true) (hg : Gl X "isinstance") (hm : X.mg "isinstance" = none) (hb : bootBuiltins "isinstance" = some (.builtin "isinstance")) (he : SD X m W e φ)
    (tg : Gl X x) (tm : X.mg x = none) (tb : bootBuiltins x = some (.type T)) (hn : x ≠ "__name__" := by decide) (hdb : (x == ("__debug__" : Str)) = false := by decide)
    (hst : starEach [e, .Name x p2] X.env = (false, eval e X.env) :: starEach [.Name x p2] X.env := by rfl) (hst2 : starEach [.Name x p2] X.env = (false, eval (.Name x p2) X.env) :: starEach [] X.env := by rfl)
    (hpl : (backTo pos (starEach [.Name x p2] X.env)).any (·.1) = false := by rfl) : SD X m W (.Call (.Name "isinstance" p) [e, .Name x p2] [] pos) (d1 (oIsT T) φ) :=
  (pe_callB call_isi hg hm hb (pa_cons he (pa_cons (pe_bltn (v := .ty T) tg tm tb rfl hn hdb) pa_nil hst2) hst) (by decide) (by decide) hst hpl).imp fun σ H Q ⟨ρ, G, F, Γ, rr, h⟩ => by
    refine ⟨ρ, G, F, Γ, rr, (Aft.bind h).mono fun d Γ1 G1 H1 F1 ⟨r1, h1⟩ v hd => ?_⟩
    exact ⟨v, .ty T, .type d.tyN, .type T, isT T d, rfl, .ty T, hd.tyx r1.sub, kit_ty (kit_row hk d), h1 G1 H1 F1 (Step.refl r1.sub) r1 (.bl (isT T d)) rfl⟩
theorem kit_tuple : kitRow "tuple" = true := by decide +kernel
theorem kit_int : kitRow "int" = true := by decide +kernel
theorem kit_bool : kitRow "bool" = true := by decide +kernel
theorem kit_str : kitRow "str" = true := by decide +kernel
theorem kit_list : kitRow "list" = true := by decide +kernel
end
end DL
end
section
set_option Elab.async false
set_option linter.all false
set_option maxRecDepth 100000
/-! DL6: statements over slots; owned lists; borrowing. -/
namespace DL
open PySem L2

inductive Fl where
  | nx | bk | ct | rt (o : O)
def AftS (K : PySem.W.Frag) (W : WX) (ρ : List V) (G H : Hp) (F : List Addr) (r : Res Fl) (E : Ends) : Prop :=
  match r with
  | .ok f Γ' => ∀ σ' G' H' F', Fr G H F G' H' F' → R K ρ G' H' F' σ' Γ' → match f with
    | .nx => E.nx σ' H'
    | .bk => E.bk σ' H'
    | .ct => E.ct σ' H'
    | .rt o => ∀ v Fo, Ow K G' H' o v Fo → (Fo ++ F').Nodup → (∀ a ∈ Fo, G' a = none) → (∀ a ∈ Fo, a ∈ F ∨ H a = none) → E.rt v H'
  | .ex x Γ' => ∀ dd σ' G' H' F', Fr G H F G' H' F' → R K ρ G' H' F' σ' Γ' → XC K G' H' x dd → W x.cls dd σ' H'
  | .bad => False
abbrev DS := Ga → Res Fl
def LS (K : PySem.W.Frag) (W : WX) (δ : DS) : TS := fun E σ H => ∃ ρ G F Γ, R K ρ G H F σ Γ ∧ AftS K W ρ G H F (δ Γ) E
def SS (X : Cx) (W : WX) (st : Stmt) (δ : DS) : Prop := PS X st (LS X.K W δ)
def SB (X : Cx) (W : WX) (st : List Stmt) (δ : DS) : Prop := PSs X st (LS X.K W δ)

section
variable {X : Cx} {K : PySem.W.Frag} {m : Bool} {W : WX} {ρ : List V} {G H G' H' : Hp} {F F' : List Addr} {σ : L2.St} {E : Ends}
theorem Fr.sub {F1 : List Addr} (h : ∀ a ∈ F1, a ∈ F) : Fr G H F G H F1 := Fr.refl.mono (fun _ z => z) h
theorem AftS.fr {r : Res Fl} (s : Fr G H F G' H' F') (h : AftS K W ρ G H F r E) : AftS K W ρ G' H' F' r E := by
  cases r with
  | ok f Γ' =>
    intro σ2 G2 H2 F2 b r2
    have q := h σ2 G2 H2 F2 (s.trans b) r2
    cases f with
    | rt o =>
      intro v Fo h1 h2 h3 h4
      refine q v Fo h1 h2 h3 fun a ha => ?_
      rcases h4 a ha with z | z
      · exact s.f a z
      · by_cases n : H a = none
        · exact .inr n
        · exact absurd z (s.d a n)
    | _ => exact q
  | ex x Γ' => exact fun dd σ2 G2 H2 F2 b => h dd σ2 G2 H2 F2 (s.trans b)
  | bad => exact h
/-- behind an expression: a statement's result -/
def Res.toS {α : Type} (r : Res α) (f : α → Ga → Res Fl) : Res Fl := r.bind f
theorem AftS.bind {α : Type} {r : Res α} {f : α → Ga → Res Fl} (h : AftS K W ρ G H F (r.bind f) E) :
    Aft K true W ρ G H F σ r fun a Γ' G' H' F' => (R K ρ G' H' F' σ Γ' ∧ Fr G H F G' H' F') ∧ AftS K W ρ G' H' F' (f a Γ') E := by
  cases r with
  | ok a Γ' => exact fun G2 H2 F2 b r2 => ⟨⟨r2, b⟩, AftS.fr b h⟩
  | ex x Γ' => exact fun dd G2 H2 F2 b r2 xc => h dd σ G2 H2 F2 b r2 xc
  | bad => exact h
theorem AftS.nx {Γ : Ga} (r : R K ρ G H F σ Γ) (h : AftS K W ρ G H F (.ok .nx Γ) E) : E.nx σ H := h σ G H F Fr.refl r

/-! ### blocks -/
def dNx : DS := fun Γ => .ok .nx Γ
def dSeq (a b : DS) : DS := fun Γ => (a Γ).bind fun f Γ => match f with
  | .nx => b Γ
  | f => .ok f Γ
theorem sb_nil : SB X W [] dNx := pss_nil.imp fun E σ H ⟨ρ, G, F, Γ, r, h⟩ => h.nx r
theorem sb_cons {st : Stmt} {sts : List Stmt} {a b : DS} (h1 : SS X W st a) (h2 : SB X W sts b) : SB X W (st :: sts) (dSeq a b) := (pss_cons h1 h2).imp fun E σ H ⟨ρ, G, F, Γ, r, h⟩ => by
  refine ⟨ρ, G, F, Γ, r, ?_⟩
  unfold dSeq at h
  cases e : a Γ with
  | bad => rw [e] at h; exact h
  | ex x Γ' => rw [e] at h; exact h
  | ok f Γ' =>
    rw [e] at h
    intro σ' G' H' F' fr rr
    cases f with
    | nx => exact ⟨ρ, G', F', Γ', rr, AftS.fr fr h⟩
    | bk => exact h σ' G' H' F' fr rr
    | ct => exact h σ' G' H' F' fr rr
    | rt o => exact h σ' G' H' F' fr rr
theorem sb_one {st : Stmt} {a : DS} (h1 : SS X W st a) : SB X W [st] a := pss_one h1
theorem ss_pass {pos : Pos} : SS X W (.Pass pos) dNx := ps_pass.imp fun E σ H ⟨ρ, G, F, Γ, r, h⟩ => h.nx r
def dBk : DS := fun Γ => .ok .bk Γ
def dCt : DS := fun Γ => .ok .ct Γ
theorem ss_break {pos : Pos} : SS X W (.Break pos) dBk := ps_break.imp fun E σ H ⟨ρ, G, F, Γ, r, h⟩ => h σ G H F Fr.refl r
theorem ss_continue {pos : Pos} : SS X W (.Continue pos) dCt := ps_continue.imp fun E σ H ⟨ρ, G, F, Γ, r, h⟩ => h σ G H F Fr.refl r
theorem ss_doc {x j pos pos'} : SS X W (.Expr (.Constant (.str x) j pos) pos') dNx := ps_doc.imp fun E σ H ⟨ρ, G, F, Γ, r, h⟩ => h.nx r

/-! ### a slot is stored -/
theorem R.set' {Γ : Ga} {d : D} {v : V} (r : R K ρ G H F σ Γ) (i : Nat) (h : Den K G d v) : ∃ F', (∀ a ∈ F', a ∈ F) ∧ R K ρ G H F' (σ.set i (some v)) (Γ.set i (.fz d)) := by
  by_cases hi : i < Γ.length
  · exact r.set hi h
  · refine ⟨F, fun _ z => z, ?_⟩
    rw [List.set_eq_of_length_le (by have := r.len; omega), List.set_eq_of_length_le (by omega)]
    exact r
def dSet (i : Nat) (a : DE) : DS := fun Γ => (a Γ).bind fun d Γ => .ok .nx (Γ.set i (.fz d))
theorem ss_set {i : Nat} {x : Str} {e : Expr} {a : DE} {pos pos' : Pos} (hN : X.N.Nodup) (hi : X.N[i]? = some x) (hx : Loc X.env.scope x) (he : SD X true W e a) (hs : swapsWith e (some (.Name x pos')) pos.line X.env = pure false := by rfl) (hf : X.fn x = true ∨ X.env.scope.names.lookup x = some .local := by first | exact .inl rfl | exact .inr rfl | assumption) :
    SS X W (.Assign [.Name x pos'] e pos) (dSet i a) := (ps_set hN hi hx he hs hf).imp fun E σ H ⟨ρ, G, F, Γ, r, h⟩ => by
  refine ⟨ρ, G, F, Γ, r, (AftS.bind h).mono fun d Γ1 G1 H1 F1 ⟨⟨r1, f1⟩, h1⟩ v hd => ?_⟩
  obtain ⟨F2, hF, r2⟩ := r1.set' i hd
  exact AftS.nx r2 (AftS.fr (Fr.sub hF) h1)
/-- a in-place rule at data -/
def Vip (K : PySem.W.Frag) (t : TIp) (f : D → D → Option D) : Prop := Vop2 K t f
def dAug (i : Nat) (f : D → D → Option D) (a : DE) : DS := fun Γ => match Γ[i]? with
  | some (.fz x) => (a Γ).bind fun y Γ => (Res.ofO (f x y) Γ).bind fun d Γ => .ok .nx (Γ.set i (.fz d))
  | _ => .bad
theorem ss_aug {i : Nat} {x : Str} {e : Expr} {a : DE} {op : Operator} {ti : TIp} {f : D → D → Option D} {pos pos' : Pos} (ho : PIp X op ti) (hv : Vop2 X.K ti f) (hN : X.N.Nodup) (hi : X.N[i]? = some x) (hx : Loc X.env.scope x) (he : SD X true W e a) (hf : X.fn x = true ∨ X.env.scope.names.lookup x = some .local := by first | exact .inl rfl | exact .inr rfl | assumption) :
    SS X W (.AugAssign (.Name x pos') op e pos) (dAug i f a) := (ps_aug hN hi hx he ho hf).imp fun E σ H ⟨ρ, G, F, Γ, r, h⟩ => by
  unfold dAug at h
  split at h
  · rename_i dx ex
    obtain ⟨v, ev, hd0⟩ := r.fz ex
    refine ⟨v, ev, ρ, G, F, Γ, r, (AftS.bind h).mono fun d Γ1 G1 H1 F1 ⟨⟨r1, f1⟩, h1⟩ w hd => ?_⟩
    refine hv G1 H1 v w dx d _ r1.sub (Den.mono f1.g _ _ hd0) hd ?_
    cases q : f dx d with
    | none => rw [q] at h1; exact h1
    | some z =>
      rw [q] at h1
      intro u G2 H2 g hu
      obtain ⟨F3, hF, r3⟩ := (r1.gr g).set' i hu
      exact AftS.nx r3 (AftS.fr (g.fr.trans (Fr.sub hF)) h1)
  · exact False.elim h
theorem vip_add : Vop2 K (ipI fun i j => i + j) oAdd := by
  intro G H x y dx dy Q s hx hy h
  cases dx <;> cases dy <;> first | exact False.elim h | skip
  rename_i i j
  exact ⟨i, j, hx, hy, PGo.int s h⟩
theorem vip_sub : Vop2 K (ipI fun i j => i - j) oSub := by
  intro G H x y dx dy Q s hx hy h
  cases dx <;> cases dy <;> first | exact False.elim h | skip
  rename_i i j
  exact ⟨i, j, hx, hy, PGo.int s h⟩
section
variable {i : Nat} {x : Str} {e : Expr} {a : DE} {pos pos' : Pos}
theorem ss_addN (hN : X.N.Nodup) (hi : X.N[i]? = some x) (hx : Loc X.env.scope x) (he : SD X true W e a) (hf : X.fn x = true ∨ X.env.scope.names.lookup x = some .local := by first | exact .inl rfl | exact .inr rfl | assumption) : SS X W (.AugAssign (.Name x pos') .Add e pos) (dAug i oAdd a) := ss_aug ip_add vip_add hN hi hx he hf
theorem ss_subN (hN : X.N.Nodup) (hi : X.N[i]? = some x) (hx : Loc X.env.scope x) (he : SD X true W e a) (hf : X.fn x = true ∨ X.env.scope.names.lookup x = some .local := by first | exact .inl rfl | exact .inr rfl | assumption) : SS X W (.AugAssign (.Name x pos') .Sub e pos) (dAug i oSub a) := ss_aug ip_sub vip_sub hN hi hx he hf
end
/-- a, b = e1, e2 -/
def dPar (i j : Nat) (a b : DE) : DS := fun Γ => (a Γ).bind fun x Γ => (b Γ).bind fun y Γ => .ok .nx ((Γ.set i (.fz x)).set j (.fz y))
theorem ss_par {i j : Nat} {x y : Str} {a b : Expr} {δ ε : DE} {px py pt pos : Pos} {kt k2 pt2} (hc : X.calm = true) (hN : X.N.Nodup) (hi : X.N[i]? = some x) (hj : X.N[j]? = some y) (hij : i ≠ j)
    (hx : X.env.scope.names.lookup x = some .local) (hy : X.env.scope.names.lookup y = some .local) (ha : SD X true W a δ) (hb : SD X true W b ε)
    (hst : starEach [a, b] X.env = (false, eval a X.env) :: starEach [b] X.env) (hst2 : starEach [b] X.env = (false, eval b X.env) :: starEach [] X.env)
    (hw : swappedStores [.Tuple [.Name x px, .Name y py] kt pt] (.Tuple [a, b] k2 pt2) X.env = pure (some [x, y]))
    (hs : swapsWithSole [.Tuple [.Name x px, .Name y py] kt pt] (.Tuple [a, b] k2 pt2) pos.line X.env = pure false := by rfl) :
    SS X W (.Assign [.Tuple [.Name x px, .Name y py] kt pt] (.Tuple [a, b] k2 pt2) pos) (dPar i j δ ε) := (ps_par hc hN hi hj hij hx hy (pa_cons ha (pa_cons hb pa_nil hst2) hst) hw hs).imp fun E σ H ⟨ρ, G, F, Γ, r, h⟩ => by
  refine ⟨ρ, G, F, Γ, r, (AftS.bind h).mono fun d Γ1 G1 H1 F1 ⟨⟨r1, f1⟩, h1⟩ v hd => ?_⟩
  refine ⟨ρ, G1, F1, Γ1, r1, (AftS.bind h1).mono fun d2 Γ2 G2 H2 F2 ⟨⟨r2, f2⟩, h2⟩ v2 hd2 => ?_⟩
  obtain ⟨F3, hF3, r3⟩ := r2.set' i (Den.mono f2.g _ _ hd)
  obtain ⟨F4, hF4, r4⟩ := r3.set' j hd2
  exact ⟨v, v2, rfl, AftS.nx r4 (AftS.fr (Fr.sub fun a z => hF3 a (hF4 a z)) h2)⟩

/-! ### targets -/
/-- alike but at some slots -/
def Off (ts : List Nat) (σ σ' : L2.St) : Prop := σ'.length = σ.length ∧ ∀ j, j ∉ ts → σ'[j]? = σ[j]?
theorem Off.refl {ts : List Nat} {σ : L2.St} : Off ts σ σ := ⟨rfl, fun _ _ => rfl⟩
theorem Off.app {ts us : List Nat} {σ σ' σ2 : L2.St} (a : Off ts σ σ') (b : Off us σ' σ2) : Off (ts ++ us) σ σ2 := ⟨b.1.trans a.1, fun j hj => (b.2 j fun z => hj (List.mem_append_right _ z)).trans (a.2 j fun z => hj (List.mem_append_left _ z))⟩
abbrev DG := D → Ga → Option Ga
def LG (K : PySem.W.Frag) (ts : List Nat) (g : DG) : TG := fun v σ H Q => ∃ ρ G F Γ d, R K ρ G H F σ Γ ∧ Den K G d v ∧ match g d Γ with
  | some Γ' => ∀ σ' F', Off ts σ σ' → (∀ a ∈ F', a ∈ F) → R K ρ G H F' σ' Γ' → Q σ' H
  | none => False
def SG (X : Cx) (tg : Expr) (ts : List Nat) (g : DG) : Prop := PG X tg (LG X.K ts g)
abbrev DGs := List D → Ga → Option Ga
def LGs (K : PySem.W.Frag) (ts : List Nat) (g : DGs) : TGs := fun vs σ H Q => ∃ ρ G F Γ ds, R K ρ G H F σ Γ ∧ Dens K G ds vs ∧ match g ds Γ with
  | some Γ' => ∀ σ' F', Off ts σ σ' → (∀ a ∈ F', a ∈ F) → R K ρ G H F' σ' Γ' → Q σ' H
  | none => False
def SGs (X : Cx) (tg : List Expr) (ts : List Nat) (g : DGs) : Prop := PGs X tg (LGs X.K ts g)
theorem _root_.L2.PG.imp {e : Expr} {t t' : TG} (h : PG X e t) (i : ∀ v σ H Q, t' v σ H Q → t v σ H Q) : PG X e t' := ⟨fun pins s σ H v u Q I r q => h.run pins s σ H v u Q I r (i v σ H Q q)⟩
theorem _root_.L2.PGs.imp {e : List Expr} {t t' : TGs} (h : PGs X e t) (i : ∀ v σ H Q, t' v σ H Q → t v σ H Q) : PGs X e t' := ⟨fun pins s σ H vs us Q I r q => h.run pins s σ H vs us Q I r (i vs σ H Q q)⟩
def gN (i : Nat) : DG := fun d Γ => some (Γ.set i (.fz d))
theorem sg_name {i : Nat} {x : Str} {pos : Pos} (hN : X.N.Nodup) (hi : X.N[i]? = some x) (hx : Loc X.env.scope x) (hf : X.fn x = true ∨ X.env.scope.names.lookup x = some .local := by first | exact .inl rfl | exact .inr rfl | assumption) : SG X (.Name x pos) [i] (gN i) := (pg_name hN hi hx hf).imp fun v σ H Q ⟨ρ, G, F, Γ, d, r, hd, h⟩ => by
  obtain ⟨F', hF, r'⟩ := r.set' i hd
  exact h _ F' ⟨List.length_set, fun j hj => List.getElem?_set_ne fun z => hj (by rw [z]; exact List.mem_singleton_self _)⟩ hF r'
def gsNil : DGs := fun ds Γ => match ds with
  | [] => some Γ
  | _ => none
def gsCons (g : DG) (gs : DGs) : DGs := fun ds Γ => match ds with
  | d :: ds => (g d Γ).bind fun Γ => gs ds Γ
  | [] => none
theorem sgs_nil : SGs X [] [] gsNil := pgs_nil.imp fun vs σ H Q ⟨ρ, G, F, Γ, ds, r, hd, h⟩ => by
  cases ds with
  | nil => simp only [Dens] at hd; exact ⟨hd, h σ F Off.refl (fun _ z => z) r⟩
  | cons d ds => exact False.elim h
theorem sgs_cons {e : Expr} {es : List Expr} {ts us : List Nat} {g : DG} {gs : DGs} (h1 : SG X e ts g) (h2 : SGs X es us gs) (hs : (assignEach (e :: es) X.env).map (·.2) = assign e X.env :: (assignEach es X.env).map (·.2) := by rfl) : SGs X (e :: es) (ts ++ us) (gsCons g gs) := (pgs_cons h1 h2 hs).imp fun vs σ H Q ⟨ρ, G, F, Γ, ds, r, hd, h⟩ => by
  cases ds with
  | nil => exact False.elim h
  | cons d ds =>
    obtain ⟨v, vr, rfl, hv, hr⟩ := hd
    refine ⟨v, vr, rfl, ρ, G, F, Γ, d, r, hv, ?_⟩
    replace h : match (g d Γ).bind fun Γ => gs ds Γ with
      | some Γ' => ∀ σ' F', Off _ σ σ' → (∀ a ∈ F', a ∈ F) → R X.K ρ G H F' σ' Γ' → Q σ' H
      | none => False := h
    cases e : g d Γ with
    | none => rw [e] at h; exact h
    | some Γ1 =>
      rw [e] at h
      simp only [Option.bind_some] at h
      intro σ1 F1 off1 hF1 r1
      refine ⟨ρ, G, F1, Γ1, ds, r1, hr, ?_⟩
      cases e2 : gs ds Γ1 with
      | none => rw [e2] at h; exact h
      | some Γ2 => rw [e2] at h; exact fun σ2 F2 off2 hF2 r2 => h σ2 F2 (off1.app off2) (fun a z => hF1 a (hF2 a z)) r2
def gTp (n : Nat) (gs : DGs) : DG := fun d Γ => match d with
  | .tup ds => if ds.length = n then gs ds Γ else none
  | _ => none
theorem sg_tup {es : List Expr} {k : Nat} {gs : DGs} {ts : List Nat} {n : Nat} {pos : Pos} (hc : X.calm = true) (h : SGs X es ts gs) (hn : (assignEach es X.env).length = n := by rfl) (hst : (assignEach es X.env).findIdx? (·.1) = none := by rfl) : SG X (.Tuple es k pos) ts (gTp n gs) := (pg_tup hc h hn hst).imp fun v σ H Q ⟨ρ, G, F, Γ, d, r, hd, h⟩ => by
  cases d <;> first | exact False.elim h | skip
  case tup ds =>
    obtain ⟨a, vs, rfl, h2, h3⟩ := hd
    replace h : match (if ds.length = n then gs ds Γ else none) with
      | some Γ' => ∀ σ' F', Off _ σ σ' → (∀ a ∈ F', a ∈ F) → R X.K ρ G H F' σ' Γ' → Q σ' H
      | none => False := h
    split at h
    · rename_i q
      split at q
      · rename_i hl
        refine ⟨a, vs, rfl, sqT_mono r.sub h2, by rw [h3.length]; exact hl, ρ, G, F, Γ, ds, r, h3, ?_⟩
        rw [q]; exact h
      · cases q
    · exact False.elim h
/-- target = e, e frozen -/
def dAsg (g : DG) (a : DE) : DS := fun Γ => (a Γ).bind fun d Γ => match g d Γ with
  | some Γ' => .ok .nx Γ'
  | none => .bad
theorem ss_asg {tg e : Expr} {a : DE} {ts : List Nat} {g : DG} {pos : Pos} (he : SD X true W e a) (hg : SG X tg ts g) (hs : swapsWithSole [tg] e pos.line X.env = pure false := by rfl) (hw : swappedStores [tg] e X.env = pure none := by rfl)
    (h1 : (assignEach [tg] X.env).map (·.2) = [assign tg X.env] := by rfl) : SS X W (.Assign [tg] e pos) (dAsg g a) := (ps_asg he hg hs hw h1).imp fun E σ H ⟨ρ, G, F, Γ, r, h⟩ => by
  refine ⟨ρ, G, F, Γ, r, (AftS.bind h).mono fun d Γ1 G1 H1 F1 ⟨⟨r1, f1⟩, h1⟩ v hd => ?_⟩
  refine ⟨ρ, G1, F1, Γ1, d, r1, hd, ?_⟩
  cases e : g d Γ1 with
  | none => rw [e] at h1; exact h1
  | some Γ2 => rw [e] at h1; exact fun σ2 F2 _ hF2 r2 => AftS.nx r2 (AftS.fr (Fr.sub hF2) h1)

/-! ### the rest of the plain statements -/
def dDrop (a : DE) : DS := fun Γ => (a Γ).bind fun _ Γ => .ok .nx Γ
theorem ss_expr {e : Expr} {a : DE} {pos : Pos} (he : SD X true W e a) (hs : swapsWith e none pos.line X.env = pure false := by rfl) : SS X W (.Expr e pos) (dDrop a) := (ps_expr he hs).imp fun E σ H ⟨ρ, G, F, Γ, r, h⟩ => by
  refine ⟨ρ, G, F, Γ, r, (AftS.bind h).mono fun d Γ1 G1 H1 F1 ⟨⟨r1, f1⟩, h1⟩ v hd => ?_⟩
  exact AftS.nx r1 h1
def dRet (a : DE) : DS := fun Γ => (a Γ).bind fun d Γ => .ok (.rt (.fz d)) Γ
theorem ss_ret {e : Expr} {a : DE} {pos : Pos} (he : SD X true W e a) : SS X W (.Return (some e) pos) (dRet a) := (ps_ret he).imp fun E σ H ⟨ρ, G, F, Γ, r, h⟩ => by
  refine ⟨ρ, G, F, Γ, r, (AftS.bind h).mono fun d Γ1 G1 H1 F1 ⟨⟨r1, f1⟩, h1⟩ v hd => ?_⟩
  exact h1 σ G1 H1 F1 Fr.refl r1 v [] ⟨rfl, hd⟩ r1.nd (fun a z => nomatch z) (fun a z => nomatch z)
def dRetN : DS := fun Γ => .ok (.rt (.fz .non)) Γ
theorem ss_retN {pos : Pos} : SS X W (.Return none pos) dRetN := ps_retN.imp fun E σ H ⟨ρ, G, F, Γ, r, h⟩ =>
  h σ G H F Fr.refl r .non [] ⟨rfl, rfl⟩ r.nd (fun a z => nomatch z) (fun a z => nomatch z)
def dIfS (c : DT) (a b : DS) : DS := fun Γ => (c Γ).bind fun k Γ => if k = true then a Γ else b Γ
theorem ss_if {c : Expr} {a b : List Stmt} {γ : DT} {α β : DS} {pos : Pos} (hc : ST X true W c γ) (ha : SB X W a α) (hb : SB X W b β) : SS X W (.If c a b pos) (dIfS γ α β) := (ps_if hc ha hb).imp fun E σ H ⟨ρ, G, F, Γ, r, h⟩ => by
  refine ⟨ρ, G, F, Γ, r, (AftS.bind h).mono fun k Γ1 G1 H1 F1 ⟨⟨r1, f1⟩, h1⟩ => ?_⟩
  cases k with
  | true => exact ⟨ρ, G1, F1, Γ1, r1, h1⟩
  | false => exact ⟨ρ, G1, F1, Γ1, r1, h1⟩
end
end DL
end
section
set_option Elab.async false
set_option linter.all false
set_option maxRecDepth 100000
/-! DL7: freezing, borrowing, owned results, owned lists changed. -/
namespace DL
open PySem L2

section
variable {X : Cx} {K : PySem.W.Frag} {m : Bool} {W : WX} {ρ : List V} {G H G' H' : Hp} {F F' : List Addr} {σ : L2.St} {E : Ends}

/-! ### a slot is frozen -/
theorem setSelf {σ : L2.St} {i : Nat} {x : Option V} (h : σ[i]? = some x) : σ.set i x = σ := by
  apply List.ext_getElem?
  intro j
  rw [List.getElem?_set]
  split
  · subst_vars
    split
    · rw [h]
    · rename_i q; rw [List.getElem?_eq_none (by omega)]
  · rfl
/-- the frozen part with an owned tree more -/
theorem icy_gr {Fi F : List Addr} (s : Same G H) (gn : ∀ a ∈ Fi, G a = none) (sub : ∀ a ∈ Fi, a ∈ F) (F2 : List Addr) (h2 : ∀ a ∈ F2, a ∈ F) : Fr G H F (icy G H Fi) H F2 where
  g := icy_same gn
  h := fun b n hb => ⟨rfl, icy_out fun z => hb (sub b z)⟩
  f := fun a ha => .inl (h2 a ha)
  d := fun _ n => n
theorem R.icy {Γ : Ga} {Fi : List Addr} (r : R K ρ G H F σ Γ) (gn : ∀ a ∈ Fi, G a = none) (dis : (Fi ++ F).Nodup) : R K ρ (DL.icy G H Fi) H F σ Γ where
  sub := icy_sub r.sub
  sl := r.sl.frame (icy_same gn) fun _ _ => rfl
  nd := r.nd
  gn := fun a ha => by
    rw [icy_out fun z => (List.nodup_append.mp dis).2.2 a z a ha rfl]
    exact r.gn a ha
theorem R.freeze {Γ : Ga} {i : Nat} {t : Option Nat} {o : O} {d : D} (r : R K ρ G H F σ Γ) (h : Γ[i]? = some (.ow t o)) (e : o.d = some d) :
    ∃ G' F', Fr G H F G' H F' ∧ R K ρ G' H F' σ (Γ.set i (.fz d)) := by
  obtain ⟨v, Fi, F1, hv, ht, how, r1, nd, hm, gn⟩ := r.take h
  have hd : Den K (DL.icy G H Fi) d v := Ow.icy gn o v Fi d (fun _ z => z) how e
  obtain ⟨F2, hF2, r2⟩ := (r1.icy gn nd).set' i hd
  refine ⟨_, F2, icy_gr r.sub gn (fun a z => (hm a).mpr (List.mem_append_left _ z)) F2 fun a z => (hm a).mpr (List.mem_append_right _ (hF2 a z)), ?_⟩
  rw [setSelf hv] at r2
  rw [List.set_set] at r2
  exact r2
def frz (i : Nat) (Γ : Ga) : Option Ga := match Γ[i]? with
  | some (.ow _ o) => (o.d).map fun d => Γ.set i (.fz d)
  | some (.fz _) => some Γ
  | _ => none
theorem R.frz {Γ Γ' : Ga} {i : Nat} (r : R K ρ G H F σ Γ) (h : DL.frz i Γ = some Γ') : ∃ G' F', Fr G H F G' H F' ∧ R K ρ G' H F' σ Γ' := by
  unfold DL.frz at h
  split at h
  · rename_i t o e
    simp only [Option.map_eq_some_iff] at h
    obtain ⟨d, hd, rfl⟩ := h
    exact r.freeze e hd
  · cases h; exact ⟨G, F, Fr.refl, r⟩
  · cases h
/-- ahead of an expression a slot is frozen -/
def dFrz {α : Type} (i : Nat) (a : Ga → Res α) : Ga → Res α := fun Γ => match frz i Γ with
  | some Γ' => a Γ'
  | none => .bad
theorem sd_frz (i : Nat) {e : Expr} {a : DE} (h : SD X true W e a) : SD X true W e (dFrz i a) := PE.imp h fun σ H Q ⟨ρ, G, F, Γ, r, h⟩ => by
  unfold dFrz at h
  split at h
  · rename_i Γ' e
    obtain ⟨G', F', f, r'⟩ := r.frz e
    exact ⟨ρ, G', F', Γ', r', Aft.step (m := true) f h⟩
  · exact False.elim h
theorem ss_frz (i : Nat) {st : Stmt} {a : DS} (h : SS X W st a) : SS X W st (dFrz i a) := PS.imp h fun E σ H ⟨ρ, G, F, Γ, r, h⟩ => by
  unfold dFrz at h
  split at h
  · rename_i Γ' e
    obtain ⟨G', F', f, r'⟩ := r.frz e
    exact ⟨ρ, G', F', Γ', r', AftS.fr f h⟩
  · exact False.elim h

/-! ### a slot is lent -/
mutual
def D.flat : D → Bool
  | .lst _ => false
  | .dK _ _ => false
  | .dT _ _ => false
  | .tup ds => D.flats ds
  | _ => true
def D.flats : List D → Bool
  | [] => true
  | d :: ds => D.flat d && D.flats ds
end
mutual
theorem Ow.kind {G H : Hp} : ∀ (o : O) (v : V) (F : List Addr), Ow K G H o v F → ∀ a ∈ F, (∀ vs, H a ≠ some (.tup vs)) ∧ ∀ ob u, H a ≠ some (.frz ob u)
  | .fz d, v, F, h => by simp only [Ow] at h; rw [h.1]; intro a ha; cases ha
  | .ol os, v, F, h => by
    simp only [Ow] at h
    obtain ⟨a, vs, F', h1, rfl, h2, h3⟩ := h
    intro b hb
    rcases List.mem_cons.mp hb with rfl | hb
    · rw [h2]; exact ⟨(fun _ q => nomatch q), (fun _ _ q => nomatch q)⟩
    · exact Ows.kind os vs F' h3 b hb
  | .oK ks os, v, F, h => by
    simp only [Ow] at h
    obtain ⟨a, vs, F', h1, rfl, h2, h3, h4⟩ := h
    intro b hb
    rcases List.mem_cons.mp hb with rfl | hb
    · rw [h2]; exact ⟨(fun _ q => nomatch q), (fun _ _ q => nomatch q)⟩
    · exact Ows.kind os vs F' h4 b hb
  | .oT ks os, v, F, h => by
    simp only [Ow] at h
    obtain ⟨a, vs, F', h1, rfl, h2, h3, h4⟩ := h
    intro b hb
    rcases List.mem_cons.mp hb with rfl | hb
    · rw [h2]; exact ⟨(fun _ q => nomatch q), (fun _ _ q => nomatch q)⟩
    · exact Ows.kind os vs F' h4 b hb
  | .oi C ns os, v, F, h => by
    simp only [Ow] at h
    obtain ⟨a, dx, vs, F', h1, rfl, h2, h3, h4, h5⟩ := h
    intro b hb
    rcases List.mem_cons.mp hb with rfl | hb
    · rw [h2]; exact ⟨(fun _ q => nomatch q), (fun _ _ q => nomatch q)⟩
    · rcases List.mem_cons.mp hb with rfl | hb
      · rw [h3]; exact ⟨(fun _ q => nomatch q), (fun _ _ q => nomatch q)⟩
      · exact Ows.kind os vs F' h5 b hb
theorem Ows.kind {G H : Hp} : ∀ (os : List O) (vs : List V) (F : List Addr), Ows K G H os vs F → ∀ a ∈ F, (∀ vs, H a ≠ some (.tup vs)) ∧ ∀ ob u, H a ≠ some (.frz ob u)
  | [], vs, F, h => by simp only [Ows] at h; rw [h.2]; intro a ha; cases ha
  | o :: os, vs, F, h => by
    simp only [Ows] at h
    obtain ⟨v, r, F1, F2, h1, rfl, h2, h3⟩ := h
    intro b hb
    rcases List.mem_append.mp hb with hb | hb
    · exact Ow.kind o v F1 h2 b hb
    · exact Ows.kind os r F2 h3 b hb
end
def less (G : Hp) (Fi : List Addr) : Hp := fun b => if b ∈ Fi then none else G b
theorem less_in {Fi : List Addr} {b : Addr} (h : b ∈ Fi) : less G Fi b = none := if_pos h
theorem less_out {Fi : List Addr} {b : Addr} (h : b ∉ Fi) : less G Fi b = G b := if_neg h
theorem sqT_less {Fi : List Addr} {a : Addr} {vs : List V} (k : ∀ a ∈ Fi, (∀ vs, G a ≠ some (.tup vs)) ∧ ∀ ob u, G a ≠ some (.frz ob u)) (h : SqT K G a vs) : SqT K (less G Fi) a vs := by
  rcases h with (h | ⟨o, h⟩) | h
  · exact .inl (.inl (by rw [less_out fun z => (k a z).1 vs h]; exact h))
  · exact .inl (.inr ⟨o, by rw [less_out fun z => (k a z).2 o _ h]; exact h⟩)
  · exact .inr h
mutual
theorem Den.less {Fi : List Addr} (k : ∀ a ∈ Fi, (∀ vs, G a ≠ some (.tup vs)) ∧ ∀ ob u, G a ≠ some (.frz ob u)) : ∀ (d : D) (v : V), d.flat = true → Den K G d v → Den K (DL.less G Fi) d v
  | .non, v, _, h => h
  | .bl _, v, _, h => h
  | .int _, v, _, h => h
  | .str _, v, _, h => h
  | .tup ds, v, f, h => by
    simp only [Den] at h ⊢
    obtain ⟨a, vs, h1, h2, h3⟩ := h
    exact ⟨a, vs, h1, sqT_less k h2, Dens.less k ds vs (by simpa [D.flat] using f) h3⟩
  | .lst _, v, f, h => by simp [D.flat] at f
  | .dK _ _, v, f, h => by simp [D.flat] at f
  | .dT _ _, v, f, h => by simp [D.flat] at f
theorem Dens.less {Fi : List Addr} (k : ∀ a ∈ Fi, (∀ vs, G a ≠ some (.tup vs)) ∧ ∀ ob u, G a ≠ some (.frz ob u)) : ∀ (ds : List D) (vs : List V), D.flats ds = true → Dens K G ds vs → Dens K (DL.less G Fi) ds vs
  | [], vs, _, h => h
  | d :: ds, vs, f, h => by
    simp only [Dens] at h ⊢
    simp only [D.flats, Bool.and_eq_true] at f
    obtain ⟨v, r, h1, h2, h3⟩ := h
    exact ⟨v, r, h1, Den.less k d v f.1 h2, Dens.less k ds r f.2 h3⟩
end
/-- a pure expression with a slot lent: what it gives must be flat -/
def dBor (i : Nat) (a : DE) : DE := fun Γ => match Γ[i]? with
  | some (.ow _ o) => (match o.d with
    | some d => (match a (Γ.set i (.fz d)) with
      | .ok r _ => if r.flat then .ok r Γ else .bad
      | _ => .bad)
    | none => .bad)
  | some (.fz _) => (match a Γ with
      | .ok r _ => .ok r Γ
      | _ => .bad)
  | _ => .bad
theorem Gr.less {G1 H1 : Hp} {Fi : List Addr} (gn : ∀ a ∈ Fi, G a = none) (dom : ∀ a ∈ Fi, H a ≠ none) (a : Gr (DL.icy G H Fi) H G1 H1) : Gr G H (DL.less G1 Fi) H1 where
  g := fun b o e => by
    have nb : b ∉ Fi := fun z => by rw [gn b z] at e; cases e
    rw [less_out nb]
    exact a.g b o (by rw [icy_out nb]; exact e)
  h := fun b n => by
    obtain ⟨e1, e2⟩ := a.h b n
    refine ⟨e1, ?_⟩
    by_cases z : b ∈ Fi
    · rw [less_in z, gn b z]
    · rw [less_out z, e2, icy_out z]
  s := fun b o e => by
    by_cases z : b ∈ Fi
    · rw [less_in z] at e; cases e
    · rw [less_out z] at e; exact a.s b o e
theorem sd_bor (i : Nat) {e : Expr} {a : DE} (h : SD X false W e a) : SD X m W e (dBor i a) := PE.imp h fun σ H Q ⟨ρ, G, F, Γ, r, h⟩ => by
  unfold dBor at h
  split at h
  · rename_i t o e
    split at h
    · rename_i d hd
      obtain ⟨v, Fi, F1, hv, ht, how, r1, nd, hm, gn⟩ := r.take e
      have hden : Den X.K (DL.icy G H Fi) d v := Ow.icy gn o v Fi d (fun _ z => z) how hd
      obtain ⟨F2, hF2, r2⟩ := (r1.icy gn nd).set' i hden
      rw [setSelf hv, List.set_set] at r2
      refine ⟨ρ, _, F2, _, r2, ?_⟩
      split at h
      · rename_i res Γ' ea
        rw [ea]
        split at h
        · rename_i hf
          intro G1 H1 F3 st r3 w hw
          obtain ⟨gr, _⟩ := st
          have dom := Ow.dom o v Fi how
          have kd := Ow.kind o v Fi how
          have g2 := gr.less gn dom
          refine h _ H1 F g2.step (r.gr g2) w (Den.less (fun a z => ?_) res w hf hw)
          obtain ⟨e1, e2⟩ := gr.h a (dom a z)
          rw [e2, icy_in z]
          exact kd a z
        · exact False.elim h
      · exact False.elim h
    · exact False.elim h
  · rename_i d e
    refine ⟨ρ, G, F, Γ, r, ?_⟩
    split at h
    · rename_i res Γ' ea
      rw [ea]
      intro G1 H1 F3 st r3 w hw
      obtain ⟨gr, _⟩ := st
      exact h G1 H1 F gr.step (r.gr gr) w hw
    · exact False.elim h
  · exact False.elim h

/-! ### a slot that is changed in place -/
theorem R.mutU {Γ : Ga} {i : Nat} {t : Option Nat} {o : O} (r : R K ρ G H F σ Γ) (h : Γ[i]? = some (.ow t o)) : ∃ v Fi, σ[i]? = some (some v) ∧ Ow K G H o v Fi ∧ Fi.Nodup ∧
    ∀ {a : Addr} {ho : HO} {o' : O} {Fi' : List Addr}, a ∈ Fi → (∀ x ∈ Fi', x ∈ Fi) → Fi'.Nodup → Ow K G (upd H a ho) o' v Fi' → ∃ F', R K ρ G (upd H a ho) F' σ (Γ.set i (.ow t o')) ∧ Fr G H F G (upd H a ho) F' := by
  obtain ⟨v, Fi, F1, hv, ht, how, r1, nd, hm, gn⟩ := r.take h
  refine ⟨v, Fi, hv, how, (List.nodup_append.mp nd).1, fun {a ho o' Fi'} ha hs hn ho' => ?_⟩
  have hd := Ow.dom o v Fi how
  have fr : Fr G H F G (upd H a ho) F := ⟨fun _ _ e => e, fun b n hb => ⟨upd_ne fun z => hb (by rw [z]; exact (hm a).mpr (List.mem_append_left _ ha)), rfl⟩, fun _ z => .inl z, fun b n => by
    by_cases z : b = a
    · subst z; rw [upd_same]; exact fun q => nomatch q
    · rw [upd_ne z]; exact n⟩
  have dis : ∀ x ∈ F1, x ≠ a := fun x hx z => (List.nodup_append.mp nd).2.2 a ha x hx z.symm
  have r2 : R K ρ G (upd H a ho) F1 σ (Γ.set i .no) := ⟨fun b u e => by
      have : b ≠ a := fun z => by rw [z, gn a ha] at e; cases e
      rw [upd_ne this]; exact r1.sub b u e, r1.sl.frame (Same.refl _) fun x hx => upd_ne (dis x hx), r1.nd, r1.gn⟩
  have hi : i < Γ.length := (List.getElem?_eq_some_iff.mp h).1
  obtain ⟨F2, hF2, r3⟩ := r2.give (i := i) (t := t) (o := o') (v := v) (Fi := Fi') (by rw [List.getElem?_set_self hi]) ht ho' (by
    rw [List.nodup_append]
    exact ⟨hn, r1.nd, fun x hx y hy => (List.nodup_append.mp nd).2.2 x (hs x hx) y hy⟩) fun x hx => gn x (hs x hx)
  rw [setSelf hv, List.set_set] at r3
  refine ⟨F2, r3, fr.mono (fun _ z => z) fun x hx => (hm x).mpr ?_⟩
  rcases List.mem_append.mp ((hF2 x).mp hx) with z | z
  · exact List.mem_append_left _ (hs x z)
  · exact List.mem_append_right _ z
theorem Ows.append1 {x : V} {d : D} (hd : Den K G d x) : ∀ {os : List O} {vs : List V} {F : List Addr}, Ows K G H os vs F → Ows K G H (os ++ [.fz d]) (vs ++ [x]) F
  | [], vs, F, h => by
    simp only [Ows] at h
    obtain ⟨rfl, rfl⟩ := h
    exact ⟨x, [], [], [], rfl, rfl, ⟨rfl, hd⟩, rfl, rfl⟩
  | o :: os, vs, F, h => by
    simp only [Ows] at h
    obtain ⟨v, r, F1, F2, rfl, rfl, h2, h3⟩ := h
    exact ⟨v, r ++ [x], F1, F2, rfl, rfl, h2, Ows.append1 hd h3⟩
theorem Ows.set1 {x : V} {d : D} (hd : Den K G d x) : ∀ {os : List O} {vs : List V} {F : List Addr} (j : Nat), Ows K G H os vs F → ∃ F', F'.Sublist F ∧ Ows K G H (os.set j (.fz d)) (vs.set j x) F'
  | [], vs, F, j, h => by
    simp only [Ows] at h
    obtain ⟨rfl, rfl⟩ := h
    exact ⟨[], List.Sublist.refl _, rfl, rfl⟩
  | o :: os, vs, F, 0, h => by
    simp only [Ows] at h
    obtain ⟨v, r, F1, F2, rfl, rfl, h2, h3⟩ := h
    exact ⟨F2, List.sublist_append_right _ _, x, r, [], F2, rfl, rfl, ⟨rfl, hd⟩, h3⟩
  | o :: os, vs, F, j + 1, h => by
    simp only [Ows] at h
    obtain ⟨v, r, F1, F2, rfl, rfl, h2, h3⟩ := h
    obtain ⟨F3, s, h4⟩ := Ows.set1 hd j h3
    exact ⟨F1 ++ F3, List.Sublist.append_left s _, v, r.set j x, F1, F3, rfl, rfl, h2, h4⟩
theorem nodup_cons_ne {a : Addr} {F : List Addr} (h : (a :: F).Nodup) : ∀ x ∈ F, x ≠ a := fun x hx z => by
  subst z; exact (List.nodup_cons.mp h).1 hx
/-- found.append(e) -/
def dApp (i : Nat) (a : DE) : DS := fun Γ => match Γ[i]? with
  | some (.ow _ (.ol _)) => (a Γ).bind fun d Γ => (match Γ[i]? with
    | some (.ow t (.ol os)) => if sizeOk os.length then .ok .nx (Γ.set i (.ow t (.ol (os ++ [.fz d])))) else .bad
    | _ => .bad)
  | _ => .bad
theorem R.olist {Γ : Ga} {i : Nat} {t : Option Nat} {os : List O} (r : R K ρ G H F σ Γ) (h : Γ[i]? = some (.ow t (.ol os))) : ∃ a vs, σ[i]? = some (some (.ref a)) ∧ H a = some (.lst vs) := by
  obtain ⟨y, A, B, C, g1, g2, ⟨v, rfl, g3, gt⟩, g4⟩ := r.sl.at h
  simp only [Ow] at g3
  obtain ⟨a, vs, F', rfl, _, h2, _⟩ := g3
  exact ⟨a, vs, g1, h2⟩
theorem ss_app (i : Nat) {x : Str} {e : Expr} {a : DE} {p apos cpos pos : Pos} (hN : PE X (.Name x p) (tVar i)) (he : SD X true W e a) 
    (hbase : attributeBase (.Name x p) "append" X.env (eval (.Name x p) X.env) = eval (.Name x p) X.env := by rfl)
    (hfew : ((backTo cpos (starEach [e] X.env)).all (fun x => !x.1) && (backToKw cpos (keywordEach [] X.env)).all (fun x => x.1.isSome)
      && decide (([e] : List Expr).length + ([] : List Keyword).length + (if ([] : List Keyword).isEmpty then 0 else 1) < 30)) = true := by rfl)
    (hline : (apos.endLine == cpos.line) = true := by rfl) (hs : starEach [e] X.env = (false, eval e X.env) :: starEach [] X.env := by rfl) (hplain : (backTo cpos (starEach [] X.env)).any (·.1) = false := by rfl)
    (hsw : swapsWith (.Call (.Attribute (.Name x p) "append" apos) [e] [] cpos) none pos.line X.env = pure false := by rfl) : SS X W (.Expr (.Call (.Attribute (.Name x p) "append" apos) [e] [] cpos) pos) (dApp i a) :=
  (ps_expr (pe_bm PySem.F.plainAttrs_list PySem.F.slot_list_append PySem.F.type_list_append mt_append hN (pa_cons he pa_nil hs) hbase hfew hline hs hplain) hsw).imp fun E σ H ⟨ρ, G, F, Γ, r, h⟩ => by
    unfold dApp at h
    split at h
    · rename_i t os e0
      obtain ⟨b, vs, hb, hH⟩ := r.olist e0
      refine ⟨.ref b, hb, .inl ⟨rfl, vs, SqL.of hH⟩, ρ, G, F, Γ, r, (AftS.bind h).mono fun d Γ1 G1 H1 F1 ⟨⟨r1, f1⟩, h1⟩ w hw => ?_⟩
      split at h1
      · rename_i t1 os1 e1
        split at h1
        · rename_i hz
          obtain ⟨v, Fi, hv, how, nd, go⟩ := r1.mutU e1
          rw [hb] at hv
          cases hv
          simp only [Ow] at how
          obtain ⟨a', vs', F', q1, rfl, q2, q3⟩ := how
          cases q1
          refine ⟨b, vs', w, rfl, rfl, q2, by rw [q3.length]; exact sizeOk_lt hz, ?_⟩
          have nn := nodup_cons_ne nd
          obtain ⟨F2, r2, f2⟩ := go (a := b) (ho := .lst (vs' ++ [w])) (o' := .ol (os1 ++ [.fz d])) (Fi' := b :: F') List.mem_cons_self (fun _ z => z) nd
            (by simp only [Ow]; exact ⟨b, _, F', rfl, rfl, upd_same, Ows.append1 hw (Ows.frame (Same.refl _) _ _ _ q3 fun x hx => upd_ne (nn x hx))⟩)
          exact AftS.nx r2 (AftS.fr f2 h1)
        · exact False.elim h1
      · exact False.elim h1
    · exact False.elim h
/-- xs[k] = e -/
def dPut (i : Nat) (k a : DE) : DS := fun Γ => (a Γ).bind fun d Γ => (match Γ[i]? with
  | some (.ow _ (.ol _)) => (k Γ).bind fun j Γ => (match j with
    | .int n => (match Γ[i]? with
      | some (.ow t (.ol os)) => (match ixN os.length n with
        | some p => .ok .nx (Γ.set i (.ow t (.ol (os.set p (.fz d)))))
        | none => .bad)
      | _ => .bad)
    | _ => .bad)
  | _ => .bad)
theorem ss_put (i : Nat) {x : Str} {e k : Expr} {a κ : DE} {p pos spos : Pos} (hN : PE X (.Name x p) (tVar i)) (hk : SD X true W k κ) (he : SD X true W e a)
    (hs : swapsWithSole [.Subscript (.Name x p) k spos] e pos.line X.env = pure false := by rfl) (hw : swappedStores [.Subscript (.Name x p) k spos] e X.env = pure none := by rfl)
    (h1 : (assignEach [.Subscript (.Name x p) k spos] X.env).map (·.2) = [assign (.Subscript (.Name x p) k spos) X.env] := by rfl)
    (ha : ∀ v, assign (.Subscript (.Name x p) k spos) X.env v = (do
      let ov ← holding [v] (eval (.Name x p) X.env)
      let iv ← holding [v, ov] (eval k X.env)
      standAt spos
      holding [v, ov, iv] (setItem ov iv v)
      release [v, ov, iv] []) := by intro _; rfl) : SS X W (.Assign [.Subscript (.Name x p) k spos] e pos) (dPut i κ a) :=
  (ps_asg he (pg_sub hN hk set_list ha) hs hw h1).imp fun E σ H ⟨ρ, G, F, Γ, r, h⟩ => by
    refine ⟨ρ, G, F, Γ, r, (AftS.bind h).mono fun d Γ1 G1 H1 F1 ⟨⟨r1, f1⟩, h1⟩ w hw => ?_⟩
    split at h1
    · rename_i t os e0
      obtain ⟨b, vs, hb, hH⟩ := r1.olist e0
      refine ⟨.ref b, hb, ρ, G1, F1, Γ1, r1, (AftS.bind h1).mono fun j Γ2 G2 H2 F2 ⟨⟨r2, f2⟩, h2⟩ z hz => ?_⟩
      cases j with
      | int n =>
        dsimp only at h2
        split at h2
        · rename_i t1 os1 e1
          split at h2
          · rename_i q eq
            obtain ⟨v, Fi, hv, how, nd, go⟩ := r2.mutU e1
            rw [hb] at hv
            cases hv
            simp only [Ow] at how
            obtain ⟨a', vs', F', q1, rfl, q2, q3⟩ := how
            cases q1
            refine ⟨b, vs', n, q, rfl, hz, q2, by rw [q3.length]; exact eq, ?_⟩
            have nn := nodup_cons_ne nd
            obtain ⟨F3, hF3, o3⟩ := Ows.set1 (K := X.K) (Den.mono f2.g _ _ hw) q (Ows.frame (H' := upd H2 b (.lst (vs'.set q w))) (Same.refl G2) _ _ _ q3 fun x hx => upd_ne (nn x hx))
            obtain ⟨F4, r4, f4⟩ := go (a := b) (ho := .lst (vs'.set q w)) (o' := .ol (os1.set q (.fz d))) (Fi' := b :: F3) List.mem_cons_self
              (fun x hx => by
                rcases List.mem_cons.mp hx with rfl | hx
                · exact List.mem_cons_self
                · exact List.mem_cons_of_mem _ (hF3.subset hx)) (List.nodup_cons.mpr ⟨fun z => (List.nodup_cons.mp nd).1 (hF3.subset z), hF3.nodup (List.nodup_cons.mp nd).2⟩)
              (by simp only [Ow]; exact ⟨b, _, F3, rfl, rfl, upd_same, o3⟩)
            exact AftS.nx r4 (AftS.fr f4 h2)
          · exact False.elim h2
        · exact False.elim h2
      | _ => exact False.elim h2
    · exact False.elim h1
end
end DL
end
section
set_option Elab.async false
set_option linter.all false
set_option maxRecDepth 100000
/-! DL8: defs and calls. -/
namespace DL
open PySem L2

/-! ### results that may be owned -/
def AftO (K : PySem.W.Frag) (W : WX) (ρ : List V) (G H : Hp) (F : List Addr) (σ : L2.St) (r : Res O) (Q : VK) : Prop :=
  match r with
  | .ok o Γ' => ∀ v G' H' F' Fo, Fr G H F G' H' (Fo ++ F') → R K ρ G' H' F' σ Γ' → Ow K G' H' o v Fo → (Fo ++ F').Nodup → (∀ a ∈ Fo, G' a = none) → Q v H'
  | .ex x Γ' => ∀ dd G' H' F', Fr G H F G' H' F' → R K ρ G' H' F' σ Γ' → XC K G' H' x dd → W x.cls dd σ H'
  | .bad => False
abbrev DOw := Ga → Res O
def LOw (K : PySem.W.Frag) (W : WX) (δ : DOw) : TE := fun σ H Q => ∃ ρ G F Γ, R K ρ G H F σ Γ ∧ AftO K W ρ G H F σ (δ Γ) Q
def SOw (X : Cx) (W : WX) (e : Expr) (δ : DOw) : Prop := PE X e (LOw X.K W δ)

/-! ### a def -/
def outs : Nat → Ga → Ga → Option Ga
  | _, [], _ => some []
  | j, .fz d :: as, _ :: Γ => (outs (j + 1) as Γ).map (.fz d :: ·)
  | j, .ow _ _ :: as, .ow t o :: Γ => if t = some j then (outs (j + 1) as Γ).map (.ow (some j) o :: ·) else none
  | _, _, _ => none
def AftF (K : PySem.W.Frag) (vs : List V) (G H : Hp) (F : List Addr) (r : Res O) (Q : VK) (E : XK) : Prop :=
  match r with
  | .ok o Γ' => ∀ v G' H' F' Fo, Fr G H F G' H' (Fo ++ F') → R K vs G' H' F' (vs.map some) Γ' → Ow K G' H' o v Fo → (Fo ++ F').Nodup → (∀ a ∈ Fo, G' a = none) → Q v H'
  | .ex x Γ' => ∀ dd G' H' F', Fr G H F G' H' F' → R K vs G' H' F' (vs.map some) Γ' → XC K G' H' x dd → E x.cls dd H'
  | .bad => False
def spF (K : PySem.W.Frag) (n : Nat) (f : DOw) : Sp := fun vs H Q E => vs.length = n ∧ ∃ G F Γ, R K vs G H F (vs.map some) Γ ∧ AftF K vs G H F (f Γ) Q E
/-- what a body makes of its arguments -/
def dEnd (as : Ga) : Res Fl → Res O
  | .ok (.rt o) Γ => (match outs 0 as Γ with
    | some as' => .ok o as'
    | none => .bad)
  | .ok .nx Γ => (match outs 0 as Γ with
    | some as' => .ok (.fz .non) as'
    | none => .bad)
  | .ok _ _ => .bad
  | .ex x Γ => (match outs 0 as Γ with
    | some as' => .ex x as'
    | none => .bad)
  | .bad => .bad
def dFn (n : Nat) (body : DS) : DOw := fun as => dEnd as (body (as ++ List.replicate n .no))

section
variable {X : Cx} {K : PySem.W.Frag} {m : Bool} {W : WX} {ρ ρ' : List V} {G H G' H' : Hp} {F F' : List Addr} {σ : L2.St} {E : Ends}
theorem SlotRs.nos : ∀ n : Nat, SlotRs K ρ G H (List.replicate n .no) (List.replicate n none) []
  | 0 => ⟨rfl, rfl⟩
  | n + 1 => ⟨none, List.replicate n none, [], [], rfl, rfl, rfl, SlotRs.nos n⟩
theorem SlotRs.app : ∀ {Γ Δ : Ga} {σ τ : L2.St} {F F' : List Addr}, SlotRs K ρ G H Γ σ F → SlotRs K ρ G H Δ τ F' → SlotRs K ρ G H (Γ ++ Δ) (σ ++ τ) (F ++ F')
  | [], Δ, σ, τ, F, F', h, h' => by obtain ⟨rfl, rfl⟩ := h; exact h'
  | s :: Γ, Δ, σ, τ, F, F', h, h' => by
    obtain ⟨x, r, F1, F2, rfl, rfl, h2, h3⟩ := h
    exact ⟨x, r ++ τ, F1, F2 ++ F', rfl, by simp, h2, SlotRs.app h3 h'⟩
theorem outs_ok (e : Same G G') : ∀ {as Γ as' : Ga} {vs : List V} {σ : L2.St} {F F0 : List Addr} {j : Nat}, (∀ k, ρ[j + k]? = vs[k]?) → SlotRs K ρ G H as (vs.map some) F0 → SlotRs K ρ G' H' Γ σ F → outs j as Γ = some as' →
    ∃ F'', F''.Sublist F ∧ SlotRs K ρ G' H' as' (vs.map some) F''
  | [], Γ, as', vs, σ, F, F0, j, hk, h0, h, eo => by
    simp only [outs, Option.some.injEq] at eo
    subst eo
    exact ⟨[], List.nil_sublist _, h0.1, rfl⟩
  | .fz d :: as, [], as', vs, σ, F, F0, j, hk, h0, h, eo => by simp [outs] at eo
  | .ow _ _ :: as, [], as', vs, σ, F, F0, j, hk, h0, h, eo => by simp [outs] at eo
  | .no :: as, Γ, as', vs, σ, F, F0, j, hk, h0, h, eo => by simp [outs] at eo
  | .fz d :: as, s :: Γ, as', vs, σ, F, F0, j, hk, h0, h, eo => by
    simp only [outs, Option.map_eq_some_iff] at eo
    obtain ⟨as2, eo, rfl⟩ := eo
    obtain ⟨x, r, F1, F2, e1, rfl, ⟨rfl, v, rfl, hd⟩, h3⟩ := h0
    cases vs with
    | nil => simp at e1
    | cons w vs =>
      simp only [List.map_cons, List.cons.injEq, Option.some.injEq] at e1
      obtain ⟨rfl, rfl⟩ := e1
      obtain ⟨y, r', F3, F4, rfl, rfl, g2, g3⟩ := h
      obtain ⟨F5, s5, g5⟩ := outs_ok e (j := j + 1) (fun k => by have := hk (k + 1); rw [List.getElem?_cons_succ] at this; rw [← this]; congr 1; omega) h3 g3 eo
      exact ⟨F5, List.Sublist.trans s5 (List.sublist_append_right _ _), some w, vs.map some, [], F5, rfl, rfl, ⟨rfl, w, rfl, Den.mono e d w hd⟩, g5⟩
  | .ow _ _ :: as, .no :: Γ, as', vs, σ, F, F0, j, hk, h0, h, eo => by simp [outs] at eo
  | .ow _ _ :: as, .fz _ :: Γ, as', vs, σ, F, F0, j, hk, h0, h, eo => by simp [outs] at eo
  | .ow t0 o0 :: as, .ow t o :: Γ, as', vs, σ, F, F0, j, hk, h0, h, eo => by
    simp only [outs] at eo
    split at eo
    · rename_i et
      simp only [Option.map_eq_some_iff] at eo
      obtain ⟨as2, eo, rfl⟩ := eo
      obtain ⟨x, r, F1, F2, e1, rfl, ⟨v, rfl, ho, ht⟩, h3⟩ := h0
      cases vs with
      | nil => simp at e1
      | cons w vs =>
        simp only [List.map_cons, List.cons.injEq, Option.some.injEq] at e1
        obtain ⟨rfl, rfl⟩ := e1
        obtain ⟨y, r', F3, F4, rfl, rfl, ⟨v', rfl, go, gt⟩, g3⟩ := h
        have hv : v' = w := by
          have := gt j et
          have h0 := hk 0
          simp only [Nat.add_zero, List.getElem?_cons_zero] at h0
          rw [h0] at this
          exact (Option.some.inj this).symm
        subst hv
        obtain ⟨F5, s5, g5⟩ := outs_ok e (j := j + 1) (fun k => by have := hk (k + 1); rw [List.getElem?_cons_succ] at this; rw [← this]; congr 1; omega) h3 g3 eo
        exact ⟨F3 ++ F5, List.Sublist.append_left s5 _, some v', vs.map some, F3, F5, rfl, rfl, ⟨v', rfl, go, fun k ek => by rw [← et] at ek; exact gt k ek⟩, g5⟩
    · cases eo
/-- from a body to the def -/
theorem fn_ends {n : Nat} {N : List Str} {vs : List V} {Q : VK} {E0 : XK} {W : WX} {δ : DS} (hW : ∀ c d σ H, E0 c d H → W c d σ H) (hn : N.length - vs.length = n) (h : spF K vs.length (dFn n δ) vs H Q E0) :
    LS K W δ { nx := fun _ H' => Q .non H', rt := Q } (L2.start N vs) H := by
  obtain ⟨_, G, F, as, r, h⟩ := h
  have r0 : R K vs G H F (L2.start N vs) (as ++ List.replicate n .no) := ⟨r.sub, by
    unfold L2.start
    rw [hn]
    have := SlotRs.app r.sl (SlotRs.nos (K := K) (ρ := vs) (G := G) (H := H) n)
    rwa [List.append_nil] at this, r.nd, r.gn⟩
  refine ⟨vs, G, F, _, r0, ?_⟩
  unfold dFn at h
  have fin : ∀ {σ' : L2.St} {G' H' : Hp} {F' : List Addr} {Γ as' : Ga}, Fr G H F G' H' F' → R K vs G' H' F' σ' Γ → outs 0 as Γ = some as' → ∃ F2, F2.Sublist F' ∧ R K vs G' H' F2 (vs.map some) as' := fun {σ' G' H' F' Γ as'} f rr eo => by
    obtain ⟨F2, s2, g2⟩ := outs_ok f.g (j := 0) (fun k => by rw [Nat.zero_add]) r.sl rr.sl eo
    exact ⟨F2, s2, rr.sub, g2, s2.nodup rr.nd, fun a ha => rr.gn a (s2.subset ha)⟩
  cases e : δ (as ++ List.replicate n .no) with
  | bad => rw [e] at h; exact h
  | ex x Γ =>
    rw [e] at h
    intro dd σ' G' H' F' f rr xc
    cases eo : outs 0 as Γ with
    | none => rw [dEnd, eo] at h; exact False.elim h
    | some as' =>
      rw [dEnd, eo] at h
      obtain ⟨F2, s2, r2⟩ := fin f rr eo
      exact hW _ _ _ _ (h dd G' H' F2 (f.mono (fun _ z => z) fun x hx => s2.subset hx) r2 xc)
  | ok fl Γ =>
    rw [e] at h
    intro σ' G' H' F' f rr
    cases fl with
    | bk => exact False.elim h
    | ct => exact False.elim h
    | nx =>
      cases eo : outs 0 as Γ with
      | none => rw [dEnd, eo] at h; exact False.elim h
      | some as' =>
        rw [dEnd, eo] at h
        obtain ⟨F2, s2, r2⟩ := fin f rr eo
        exact h .non G' H' F2 [] (f.mono (fun _ z => z) fun x hx => s2.subset hx) r2 ⟨rfl, rfl⟩ r2.nd fun a z => nomatch z
    | rt o =>
      cases eo : outs 0 as Γ with
      | none => rw [dEnd, eo] at h; exact False.elim h
      | some as' =>
        rw [dEnd, eo] at h
        obtain ⟨F2, s2, r2⟩ := fin f rr eo
        intro v Fo ho hnd hg hs
        have sl : (Fo ++ F2).Sublist (Fo ++ F') := List.Sublist.append_left s2 _
        refine h v G' H' F2 Fo ⟨f.g, f.h, fun a ha => ?_, f.d⟩ r2 ho (sl.nodup hnd) hg
        rcases List.mem_append.mp ha with z | z
        · exact hs a z
        · exact f.f a (s2.subset z)
/-- THE RULE for a def that nothing is raised out of -/
theorem fn_ok {P : Program} {w : World} {mg : Str → Option Value} {base : Heap} {x qual : Str} {st : Stmt} {f : Addr} {fd : FuncData} {N ps : List Str} {k n : Nat} {δ : DS} (Fn : Fun K x qual st f fd) (S : FnScope N ps (defScope st)) (hn : N.length - ps.length = n)
    (hb : ∀ (cdv : Value) (A : Around) (outer : List Env) (s : Shared) (H : Hp) (E : XK), Room k (A.deeper (PyProof.Rows.envOfC qual (defScope st) s.heap.objs.size f cdv)) → SB (cxOf CX0 P w K mg base N qual (defScope st) f cdv A outer s H E).nox (fun _ _ _ _ => False) (defBody st) δ) :
    FnOk P w K mg base CX0 (k + 1) f fd ps fun vs H Q E => spF K ps.length (dFn n δ) vs H Q fun _ _ _ => False := by
  refine Fn.ok S (fun vs H Q E h => h.1) fun cdv A outer s H vs Q E hr h => ⟨_, hb cdv A outer s H E hr, ?_⟩
  have hl := h.1
  rw [← hl] at h hn
  exact fn_ends (fun _ _ _ _ z => z) hn h
/-- no error leaves -/
abbrev spN (K : PySem.W.Frag) (n : Nat) (f : DOw) : Sp := fun vs H Q _ => spF K n f vs H Q fun _ _ _ => False
/-- f says less than g -/
def Le (f g : DOw) : Prop := ∀ Γ, f Γ = .bad ∨ g Γ = f Γ
theorem spN_le {P : Program} {w : World} {mg : Str → Option Value} {base : Heap} {CX : CXT} {k n : Nat} {f : Addr} {fd : FuncData} {ps : List Str} {g g' : DOw} (hf : FnOk P w K mg base CX k f fd ps (spN K n g)) (h : Le g' g) : FnOk P w K mg base CX k f fd ps (spN K n g') :=
  hf.imp fun vs H Q E ⟨hl, G, F, Γ, r, q⟩ => ⟨hl, G, F, Γ, r, by
    rcases h Γ with e | e
    · rw [e] at q; exact False.elim q
    · rw [e]; exact q⟩

/-! ### pure defs: data to data -/
def allFz : Ga → Option (List D)
  | [] => some []
  | .fz d :: r => (allFz r).map (d :: ·)
  | _ :: _ => none
def pureF (f : List D → Option D) : DOw := fun Γ => match allFz Γ with
  | some ds => (match f ds with
    | some d => .ok (.fz d) Γ
    | none => .bad)
  | none => .bad
@[simp] theorem allFz_map : ∀ ds : List D, allFz (ds.map Sl.fz) = some ds
  | [] => rfl
  | d :: ds => by simp [allFz, allFz_map ds]
theorem allFz_of : ∀ {Γ : Ga} {ds : List D}, allFz Γ = some ds → Γ = ds.map Sl.fz
  | [], ds, h => by simp [allFz] at h; subst h; rfl
  | .fz d :: r, ds, h => by
    simp only [allFz, Option.map_eq_some_iff] at h
    obtain ⟨ds', h, rfl⟩ := h
    rw [allFz_of h]; rfl
  | .no :: r, ds, h => by simp [allFz] at h
  | .ow _ _ :: r, ds, h => by simp [allFz] at h
theorem le_pure {f : List D → Option D} {g : DOw} (h : ∀ ds d, f ds = some d → g (ds.map Sl.fz) = .ok (.fz d) (ds.map Sl.fz)) : Le (pureF f) g := fun Γ => by
  unfold pureF
  cases e : allFz Γ with
  | none => exact .inl rfl
  | some ds =>
    dsimp only
    cases e2 : f ds with
    | none => exact .inl rfl
    | some d =>
      cases allFz_of e
      exact .inr (h ds d e2)
theorem dens_slots : ∀ {ds : List D} {vs : List V}, Dens K G ds vs → SlotRs K ρ G H (ds.map Sl.fz) (vs.map some) []
  | [], vs, h => by simp only [Dens] at h; subst h; exact ⟨rfl, rfl⟩
  | d :: ds, vs, h => by
    obtain ⟨v, r, rfl, h2, h3⟩ := h
    exact ⟨some v, r.map some, [], [], rfl, rfl, ⟨rfl, v, rfl, h2⟩, dens_slots h3⟩
theorem Fr.gr0 {F' : List Addr} (f : Fr G H [] G' H' F') (s : Same G' H') : Gr G H G' H' := ⟨f.g, fun b n => f.h b n (fun z => nomatch z), s⟩
/-- a call of a pure def: as any operator on values -/
theorem v_pure {n : Nat} {f : List D → Option D} (hn : ∀ ds d, f ds = some d → ds.length = n) : Vops K (fun vs H Q => spN K n (pureF f) vs H Q fun _ _ _ => False) f := by
  intro G H vs ds Q s hd h
  cases e : f ds with
  | none => rw [e] at h; exact False.elim h
  | some d =>
    rw [e] at h
    refine ⟨by rw [hd.length]; exact hn ds d e, G, [], ds.map Sl.fz, ⟨s, dens_slots hd, List.nodup_nil, fun a z => nomatch z⟩, ?_⟩
    unfold pureF
    rw [allFz_map]
    simp only
    rw [e]
    intro v G' H' F' Fo fr r ow nd gn
    obtain ⟨rfl, hv⟩ := ow
    exact h v G' H' (fr.gr0 r.sub) hv
theorem passesAt0 {E : XK} {σ : L2.St} : PassesAt CX0 X σ E := fun _ _ _ _ _ _ h => h.elim
theorem sd_callP {CX : CXT} {k n : Nat} {f : Addr} {fd : FuncData} {ps : List Str} {x : Str} {p pos : Pos} {e : Expr} {es : List Expr} {δ : DA} {g : List D → Option D} (Fn : FnOk X.prog X.w X.K X.mg X.base CX k f fd ps (spN X.K n (pureF g))) (hlen : ∀ ds d, g ds = some d → ds.length = n) (hr : Room k X.A) (hg : Gl X x) (hm : X.mg x = some (.ref f)) (hk : PySem.W.keepIn X.K (.ref f) = true) (hb : Binds X.K fd ps []) (hx : ∀ σ, PassesAt CX X σ (WE W σ))
    (ha : SA X m W (e :: es) δ) (hdb : (x == ("__debug__" : Str)) = false := by decide) (he : starEach (e :: es) X.env = (false, eval e X.env) :: starEach es X.env := by rfl) (hpl : (backTo pos (starEach es X.env)).any (·.1) = false := by rfl) :
    SD X m W (.Call (.Name x p) (e :: es) [] pos) (dA g δ) := (pe_callS Fn hr hg hm hk hb hx ha hdb he hpl).imp fun σ H Q h => leA (X := X) (v_pure (K := X.K) hlen) σ H Q h

/-! ### calls with owned arguments -/
inductive Ar where
  | fz (d : D) | sl (i : Nat)
def Args (K : PySem.W.Frag) (G : Hp) (σ : L2.St) : List Ar → List V → Prop
  | [], vs => vs = []
  | .fz d :: as, vs => ∃ v r, vs = v :: r ∧ Den K G d v ∧ Args K G σ as r
  | .sl i :: as, vs => ∃ v r, vs = v :: r ∧ σ[i]? = some (some v) ∧ Args K G σ as r
theorem Args.mono (e : Same G G') : ∀ {as : List Ar} {vs : List V}, Args K G σ as vs → Args K G' σ as vs
  | [], vs, h => h
  | .fz d :: as, vs, h => by
    obtain ⟨v, r, h1, h2, h3⟩ := h
    exact ⟨v, r, h1, Den.mono e d v h2, Args.mono e h3⟩
  | .sl i :: as, vs, h => by
    obtain ⟨v, r, h1, h2, h3⟩ := h
    exact ⟨v, r, h1, h2, Args.mono e h3⟩
abbrev DAr := Ga → Res (List Ar)
def LAr (K : PySem.W.Frag) (W : WX) (δ : DAr) : TA := fun σ H Q => ∃ ρ G F Γ, R K ρ G H F σ Γ ∧ Aft K true W ρ G H F σ (δ Γ) fun as _ G' H' _ => ∀ vs, Args K G' σ as vs → Q vs H'
def SAr (X : Cx) (W : WX) (es : List Expr) (δ : DAr) : Prop := PA X es (LAr X.K W δ)
def arNil : DAr := fun Γ => .ok [] Γ
def arCons (a : DE) (as : DAr) : DAr := fun Γ => (a Γ).bind fun x Γ => (as Γ).bind fun xs Γ => .ok (.fz x :: xs) Γ
def arSlot (i : Nat) (as : DAr) : DAr := fun Γ => match Γ[i]? with
  | some (.ow _ _) => (as Γ).bind fun xs Γ => .ok (.sl i :: xs) Γ
  | _ => .bad
theorem sar_nil : SAr X W [] arNil := pa_nil.imp fun σ H Q ⟨ρ, G, F, Γ, r, h⟩ => h G H F Fr.refl r [] rfl
theorem sar_cons {e : Expr} {es : List Expr} {a : DE} {as : DAr} (ha : SD X true W e a) (hs : SAr X W es as) (hst : starEach (e :: es) X.env = (false, eval e X.env) :: starEach es X.env := by rfl) : SAr X W (e :: es) (arCons a as) := (pa_cons ha hs hst).imp fun σ H Q ⟨ρ, G, F, Γ, r, h⟩ => by
  refine ⟨ρ, G, F, Γ, r, (Aft.bind h).mono fun d Γ1 G1 H1 F1 ⟨r1, h1⟩ v hd => ?_⟩
  refine ⟨ρ, G1, F1, Γ1, r1, (Aft.bindG h1).mono fun ds Γ2 G2 H2 F2 ⟨⟨r2, g2⟩, h2⟩ vs hds => ?_⟩
  exact h2 G2 H2 F2 Fr.refl r2 (v :: vs) ⟨v, vs, rfl, Den.mono g2 _ _ hd, hds⟩
theorem R.oval {Γ : Ga} {i : Nat} {t : Option Nat} {o : O} (r : R K ρ G H F σ Γ) (h : Γ[i]? = some (.ow t o)) : ∃ v, σ[i]? = some (some v) ∧ ∀ k, t = some k → ρ[k]? = some v := by
  obtain ⟨y, A, B, C, g1, g2, ⟨v, rfl, g3, gt⟩, g4⟩ := r.sl.at h
  exact ⟨v, g1, gt⟩
theorem sar_slot (i : Nat) {x : Str} {p : Pos} {es : List Expr} {as : DAr} (hN : PE X (.Name x p) (tVar i)) (hs : SAr X W es as) (hst : starEach (.Name x p :: es) X.env = (false, eval (.Name x p) X.env) :: starEach es X.env := by rfl) : SAr X W (.Name x p :: es) (arSlot i as) := (pa_cons hN hs hst).imp fun σ H Q ⟨ρ, G, F, Γ, r, h⟩ => by
  unfold arSlot at h
  split at h
  · rename_i t o e
    obtain ⟨v, hv, _⟩ := r.oval e
    refine ⟨v, hv, ρ, G, F, Γ, r, (Aft.bind h).mono fun xs Γ1 G1 H1 F1 ⟨r1, h1⟩ vs hvs => ?_⟩
    exact h1 G1 H1 F1 Fr.refl r1 (v :: vs) ⟨v, vs, rfl, hv, hvs⟩
  · exact False.elim h
def pull : Nat → List Ar → Ga → Option (Ga × Ga)
  | _, [], Γ => some ([], Γ)
  | j, .fz d :: as, Γ => (pull (j + 1) as Γ).map fun x => (.fz d :: x.1, x.2)
  | j, .sl i :: as, Γ => match Γ[i]? with
    | some (.ow _ o) => (pull (j + 1) as (Γ.set i .no)).map fun x => (.ow (some j) o :: x.1, x.2)
    | _ => none
def push : List Ar → Ga → Ga → Ga → Option Ga
  | [], _, [], Γ => some Γ
  | .fz _ :: as, Γ0, _ :: xs, Γ => push as Γ0 xs Γ
  | .sl i :: as, Γ0, .ow _ o :: xs, Γ => (match Γ0[i]? with
    | some (.ow t _) => (match Γ[i]? with
      | some .no => push as Γ0 xs (Γ.set i (.ow t o))
      | _ => none)
    | _ => none)
  | _, _, _, _ => none
theorem pull_ok : ∀ {as : List Ar} {j : Nat} {Γ xs Γ' : Ga} {vs : List V} {F : List Addr}, R K ρ G H F σ Γ → Args K G σ as vs → pull j as Γ = some (xs, Γ') → (∀ k, ρ'[j + k]? = vs[k]?) →
    ∃ F1 F2, SlotRs K ρ' G H xs (vs.map some) F1 ∧ R K ρ G H F2 σ Γ' ∧ (F1 ++ F2).Nodup ∧ (∀ a, a ∈ F ↔ a ∈ F1 ++ F2) ∧ ∀ a ∈ F1, G a = none
  | [], j, Γ, xs, Γ', vs, F, r, ha, e, hk => by
    simp only [pull, Option.some.injEq, Prod.mk.injEq] at e
    obtain ⟨rfl, rfl⟩ := e
    simp only [Args] at ha
    subst ha
    exact ⟨[], F, ⟨rfl, rfl⟩, r, r.nd, fun a => Iff.rfl, fun a z => nomatch z⟩
  | .fz d :: as, j, Γ, xs, Γ', vs, F, r, ha, e, hk => by
    simp only [pull, Option.map_eq_some_iff] at e
    obtain ⟨⟨ys, Γ2⟩, e, e2⟩ := e
    simp only [Prod.mk.injEq] at e2
    obtain ⟨rfl, rfl⟩ := e2
    obtain ⟨v, vr, rfl, hd, ha⟩ := ha
    obtain ⟨F1, F2, g1, g2, g3, g4, g5⟩ := pull_ok (j := j + 1) r ha e fun k => by have := hk (k + 1); rw [List.getElem?_cons_succ] at this; rw [← this]; congr 1; omega
    exact ⟨F1, F2, ⟨some v, vr.map some, [], F1, rfl, rfl, ⟨rfl, v, rfl, hd⟩, g1⟩, g2, g3, g4, g5⟩
  | .sl i :: as, j, Γ, xs, Γ', vs, F, r, ha, e, hk => by
    simp only [pull] at e
    split at e
    · rename_i t o eo
      simp only [Option.map_eq_some_iff] at e
      obtain ⟨⟨ys, Γ2⟩, e, e2⟩ := e
      simp only [Prod.mk.injEq] at e2
      obtain ⟨rfl, rfl⟩ := e2
      obtain ⟨v, vr, rfl, hd, ha⟩ := ha
      obtain ⟨v', Fi, F0, hv, ht, how, r1, nd, hm, gn⟩ := r.take eo
      rw [hd] at hv
      cases hv
      obtain ⟨F1, F2, g1, g2, g3, g4, g5⟩ := pull_ok (j := j + 1) r1 ha e fun k => by have := hk (k + 1); rw [List.getElem?_cons_succ] at this; rw [← this]; congr 1; omega
      refine ⟨Fi ++ F1, F2, ⟨some v, vr.map some, Fi, F1, rfl, rfl, ⟨v, rfl, how, fun k ek => ?_⟩, g1⟩, g2, ?_, fun a => ?_, fun a ha => ?_⟩
      · cases ek
        have := hk 0
        simpa using this
      · rw [List.append_assoc, List.nodup_append]
        refine ⟨(List.nodup_append.mp nd).1, g3, fun a ha b hb => (List.nodup_append.mp nd).2.2 a ha b ((g4 b).mpr hb)⟩
      · rw [hm a, List.append_assoc, List.mem_append, List.mem_append, g4 a]
      · rcases List.mem_append.mp ha with z | z
        · exact gn a z
        · exact g5 a z
    · cases e
theorem push_ok {Γ0 : Ga} (tags : ∀ (i : Nat) (t : Option Nat) (o : O), Γ0[i]? = some (Sl.ow t o) → ∃ v, σ[i]? = some (some v) ∧ ∀ k, t = some k → ρ[k]? = some v) : ∀ {as : List Ar} {xs Γ Γ' : Ga} {vs : List V} {F1 F2 : List Addr}, Args K G' σ as vs → SlotRs K ρ' G H xs (vs.map some) F1 → R K ρ G H F2 σ Γ → (F1 ++ F2).Nodup → (∀ a ∈ F1, G a = none) →
    push as Γ0 xs Γ = some Γ' → ∃ F', R K ρ G H F' σ Γ' ∧ ∀ a ∈ F', a ∈ F1 ++ F2
  | [], [], Γ, Γ', vs, F1, F2, ha, hs, r, nd, gn, e => by
    simp only [push, Option.some.injEq] at e
    subst e
    exact ⟨F2, r, fun a z => List.mem_append_right _ z⟩
  | [], _ :: _, Γ, Γ', vs, F1, F2, ha, hs, r, nd, gn, e => by simp [push] at e
  | .fz d :: as, [], Γ, Γ', vs, F1, F2, ha, hs, r, nd, gn, e => by simp [push] at e
  | .sl i :: as, [], Γ, Γ', vs, F1, F2, ha, hs, r, nd, gn, e => by simp [push] at e
  | .sl i :: as, .no :: _, Γ, Γ', vs, F1, F2, ha, hs, r, nd, gn, e => by simp [push] at e
  | .sl i :: as, .fz _ :: _, Γ, Γ', vs, F1, F2, ha, hs, r, nd, gn, e => by simp [push] at e
  | .fz d :: as, x :: xs, Γ, Γ', vs, F1, F2, ha, hs, r, nd, gn, e => by
    simp only [push] at e
    obtain ⟨v, vr, rfl, hd, ha⟩ := ha
    obtain ⟨y, yr, Fa, Fb, e1, rfl, h2, h3⟩ := hs
    simp only [List.map_cons, List.cons.injEq] at e1
    obtain ⟨rfl, rfl⟩ := e1
    have sl : (Fb ++ F2).Sublist ((Fa ++ Fb) ++ F2) := List.Sublist.append_right (List.sublist_append_right _ _) _
    obtain ⟨F', r', h'⟩ := push_ok tags ha h3 r (sl.nodup nd) (fun a z => gn a (List.mem_append_right _ z)) e
    exact ⟨F', r', fun a z => sl.subset (h' a z)⟩
  | .sl i :: as, .ow tt o :: xs, Γ, Γ', vs, F1, F2, ha, hs, r, nd, gn, e => by
    simp only [push] at e
    split at e
    · rename_i t o0 e0
      split at e
      · rename_i en
        obtain ⟨v, vr, rfl, hd, ha⟩ := ha
        obtain ⟨y, yr, Fa, Fb, e1, rfl, ⟨v', rfl, h2, _⟩, h3⟩ := hs
        simp only [List.map_cons, List.cons.injEq, Option.some.injEq] at e1
        obtain ⟨rfl, rfl⟩ := e1
        obtain ⟨v'', hv'', ht⟩ := tags i t o0 e0
        rw [hd] at hv''
        cases hv''
        have nd1 : (Fa ++ F2).Nodup := by
          have sl : (Fa ++ F2).Sublist ((Fa ++ Fb) ++ F2) := List.Sublist.append_right (List.sublist_append_left _ _) _
          exact sl.nodup nd
        obtain ⟨F3, hF3, r3⟩ := r.give en ht h2 nd1 fun a z => gn a (List.mem_append_left _ z)
        rw [setSelf hd] at r3
        have nd2 : (Fb ++ F3).Nodup := by
          rw [List.nodup_append]
          refine ⟨((List.nodup_append.mp ((List.nodup_append.mp nd).1)).2.1), r3.nd, fun a ha b hb z => ?_⟩
          subst z
          rcases List.mem_append.mp ((hF3 a).mp hb) with q | q
          · exact (List.nodup_append.mp (List.nodup_append.mp nd).1).2.2 a q a ha rfl
          · exact (List.nodup_append.mp nd).2.2 a (List.mem_append_right _ ha) a q rfl
        obtain ⟨F', r', h'⟩ := push_ok tags ha h3 r3 nd2 (fun a z => gn a (List.mem_append_right _ z)) e
        refine ⟨F', r', fun a z => ?_⟩
        rcases List.mem_append.mp (h' a z) with q | q
        · exact List.mem_append_left _ (List.mem_append_right _ q)
        · rcases List.mem_append.mp ((hF3 a).mp q) with q | q
          · exact List.mem_append_left _ (List.mem_append_left _ q)
          · exact List.mem_append_right _ q
      · cases e
    · cases e
def dCall (f : DOw) (a : DAr) : DOw := fun Γ => (a Γ).bind fun as Γ1 => match pull 0 as Γ1 with
  | none => .bad
  | some x => (match f x.1 with
    | .ok o xs => (match push as Γ1 xs x.2 with
      | some Γ3 => .ok o Γ3
      | none => .bad)
    | .ex e xs => (match push as Γ1 xs x.2 with
      | some Γ3 => .ex e Γ3
      | none => .bad)
    | .bad => .bad)
theorem AftO.bind {α : Type} {r : Res α} {f : α → Ga → Res O} {Q : VK} (h : AftO K W ρ G H F σ (r.bind f) Q) :
    Aft K true W ρ G H F σ r fun a Γ' G' H' F' => R K ρ G' H' F' σ Γ' ∧ AftO K W ρ G' H' F' σ (f a Γ') Q := by
  cases r with
  | ok a Γ' =>
    refine fun G2 H2 F2 b r2 => ⟨r2, ?_⟩
    replace h : AftO K W ρ G H F σ (f a Γ') Q := h
    cases e : f a Γ' with
    | bad => rw [e] at h; exact h
    | ex x Γ3 => rw [e] at h; exact fun dd G3 H3 F3 c => h dd G3 H3 F3 (Fr.trans b c)
    | ok o Γ3 => rw [e] at h; exact fun v G3 H3 F3 Fo c => h v G3 H3 F3 Fo (Fr.trans b c)
  | ex x Γ' => exact h
  | bad => exact h
/-- the sides of a call: what the callee is handed, what comes back -/
theorem call_sides {n : Nat} {f : DOw} {as : List Ar} {Γ1 : Ga} {vs : List V} {Q : VK} {E0 : XK} (r1 : R K ρ G H F σ Γ1) (ha : Args K G σ as vs) (hl : vs.length = n) (hE' : ∀ c d H', W c d σ H' → E0 c d H')
    (h : AftO K W ρ G H F σ (match pull 0 as Γ1 with
      | none => .bad
      | some x => (match f x.1 with
        | .ok o xs => (match push as Γ1 xs x.2 with
          | some Γ3 => .ok o Γ3
          | none => .bad)
        | .ex e xs => (match push as Γ1 xs x.2 with
          | some Γ3 => .ex e Γ3
          | none => .bad)
        | .bad => .bad)) Q) : spF K n f vs H Q E0 := by
  cases ep : pull 0 as Γ1 with
  | none => rw [ep] at h; exact False.elim h
  | some x =>
    obtain ⟨xs, Γ2⟩ := x
    rw [ep] at h
    obtain ⟨F1, F2, g1, g2, g3, g4, g5⟩ := pull_ok (ρ' := vs) r1 ha ep fun k => by rw [Nat.zero_add]
    refine ⟨hl, G, F1, xs, ⟨r1.sub, g1, (List.nodup_append.mp g3).1, g5⟩, ?_⟩
    have back : ∀ {G' H' : Hp} {F' Fo : List Addr} {xs' Γ3 : Ga}, Fr G H F1 G' H' (Fo ++ F') → R K vs G' H' F' (vs.map some) xs' → (Fo ++ F').Nodup → (∀ a ∈ Fo, G' a = none) → push as Γ1 xs' Γ2 = some Γ3 → ∃ F3, R K ρ G' H' F3 σ Γ3 ∧ (Fo ++ F3).Nodup ∧ Fr G H F G' H' (Fo ++ F3) := fun {G' H' F' Fo xs' Γ3} fr rr nd gn ep => by
      have dom2 : ∀ x ∈ F2, H x ≠ none := g2.sl.dom
      have p21 : (F2 ++ F1).Nodup := (List.perm_append_comm.nodup_iff).mp g3
      obtain ⟨nd2, k2, fr2⟩ := fr.frame (Fi := F2) dom2 p21 nd
      have r2' : R K ρ G' H' F2 σ Γ2 := ⟨rr.sub, g2.sl.frame fr.g fun a ha => (k2 a ha).1, g2.nd, fun a ha => by rw [(k2 a ha).2]; exact g2.gn a ha⟩
      have nd3 : (F' ++ F2).Nodup := by
        have sl : (F2 ++ F').Sublist (F2 ++ (Fo ++ F')) := List.Sublist.append_left (List.sublist_append_right _ _) _
        exact (List.perm_append_comm.nodup_iff).mp (sl.nodup nd2)
      obtain ⟨F3, r3, h3⟩ := push_ok (ρ' := vs) (G' := G) (fun i t o e => r1.oval e) ha rr.sl r2' nd3 rr.gn ep
      refine ⟨F3, r3, ?_, ?_⟩
      · rw [List.nodup_append]
        refine ⟨(List.nodup_append.mp nd).1, r3.nd, fun a ha b hb z => ?_⟩
        subst z
        rcases List.mem_append.mp (h3 a hb) with q | q
        · exact (List.nodup_append.mp nd).2.2 a ha a q rfl
        · exact (List.nodup_append.mp nd2).2.2 a q a (List.mem_append_left _ ha) rfl
      · refine ⟨fr2.g, fun b n hb => fr2.h b n fun z => hb ((g4 b).mpr ?_), fun a ha => ?_, fr2.d⟩
        · rcases List.mem_append.mp z with z | z
          · exact List.mem_append_right _ z
          · exact List.mem_append_left _ z
        · have : a ∈ F2 ++ (Fo ++ F') := by
            rcases List.mem_append.mp ha with q | q
            · exact List.mem_append_right _ (List.mem_append_left _ q)
            · rcases List.mem_append.mp (h3 a q) with q | q
              · exact List.mem_append_right _ (List.mem_append_right _ q)
              · exact List.mem_append_left _ q
          rcases fr2.f a this with q | q
          · refine .inl ((g4 a).mpr ?_)
            rcases List.mem_append.mp q with q | q
            · exact List.mem_append_right _ q
            · exact List.mem_append_left _ q
          · exact .inr q
    cases ef : f xs with
    | bad => simp only [ef] at h; exact h
    | ok o xs' =>
      simp only [ef] at h
      cases ep2 : push as Γ1 xs' Γ2 with
      | none => rw [ep2] at h; exact False.elim h
      | some Γ3 =>
        rw [ep2] at h
        intro v G' H' F' Fo fr rr ow nd gn
        obtain ⟨F3, r3, nd3, fr3⟩ := back fr rr nd gn ep2
        exact h v G' H' F3 Fo fr3 r3 ow nd3 gn
    | ex e xs' =>
      simp only [ef] at h
      cases ep2 : push as Γ1 xs' Γ2 with
      | none => rw [ep2] at h; exact False.elim h
      | some Γ3 =>
        rw [ep2] at h
        intro dd G' H' F' fr rr xc
        obtain ⟨F3, r3, nd3, fr3⟩ := back (Fo := []) fr rr rr.nd (fun a z => nomatch z) ep2
        exact hE' _ _ _ (h dd G' H' F3 fr3 r3 xc)
/-- what may raise counts as nothing -/
def noEx (f : DOw) : DOw := fun Γ => match f Γ with
  | .ok o Γ' => .ok o Γ'
  | _ => .bad
theorem spF_noEx {n : Nat} {f : DOw} {vs : List V} {Q : VK} {E0 E1 : XK} (h : spF K n (noEx f) vs H Q E0) : spF K n f vs H Q E1 := by
  obtain ⟨hl, G, F, Γ, r, h⟩ := h
  refine ⟨hl, G, F, Γ, r, ?_⟩
  unfold noEx at h
  cases e : f Γ with
  | bad => rw [e] at h; exact h
  | ex x Γ' => rw [e] at h; exact False.elim h
  | ok o Γ' => rw [e] at h; exact h
/-- f(..), f a def that may raise -/
theorem so_call {CX : CXT} {k n : Nat} {f : Addr} {fd : FuncData} {ps : List Str} {x : Str} {p pos : Pos} {e : Expr} {es : List Expr} {δ : DAr} {g : DOw} (Fn : FnOk X.prog X.w X.K X.mg X.base CX k f fd ps (spF X.K n g)) (hn : ps.length = n) (hr : Room k X.A) (hg : Gl X x) (hm : X.mg x = some (.ref f)) (hk : PySem.W.keepIn X.K (.ref f) = true) (hb : Binds X.K fd ps []) (hx : ∀ σ, PassesAt CX X σ (WE W σ))
    (ha : SAr X W (e :: es) δ) (hw : ∀ Γ as Γ', δ Γ = .ok as Γ' → as.length = n) (hdb : (x == ("__debug__" : Str)) = false := by decide) (he : starEach (e :: es) X.env = (false, eval e X.env) :: starEach es X.env := by rfl) (hpl : (backTo pos (starEach es X.env)).any (·.1) = false := by rfl) :
    SOw X W (.Call (.Name x p) (e :: es) [] pos) (dCall g δ) := (pe_callS Fn hr hg hm hk hb hx ha hdb he hpl).imp fun σ H Q ⟨ρ, G, F, Γ, r, h⟩ => by
  refine ⟨ρ, G, F, Γ, r, ?_⟩
  cases ed : δ Γ with
  | bad => unfold dCall at h; rw [ed] at h; exact h
  | ex x Γ' => unfold dCall at h; rw [ed] at h; exact h
  | ok as Γ1 =>
    have h2 := AftO.bind (K := X.K) (W := W) (ρ := ρ) (G := G) (H := H) (F := F) (σ := σ) (r := δ Γ) (Q := Q) h
    rw [ed] at h2
    intro G1 H1 F1 st r1 vs hvs
    have hl : vs.length = n := by
      rw [← hw _ _ _ ed]
      clear h h2 ed
      revert vs
      induction as with
      | nil => intro vs hvs; simp only [Args] at hvs; subst hvs; rfl
      | cons a as ih =>
        intro vs hvs
        cases a <;> (obtain ⟨v, vr, rfl, _, hr⟩ := hvs; simp [ih vr hr])
    exact call_sides r1 hvs hl (fun c d H' z => z) (h2 G1 H1 F1 st r1).2
end
end DL
end
section
set_option Elab.async false
set_option linter.all false
set_option maxRecDepth 100000
/-! DL9: owned results in statements; for, while; comprehensions. -/
namespace DL
open PySem L2

section
variable {X : Cx} {K : PySem.W.Frag} {m : Bool} {W : WX} {ρ ρ' : List V} {G H G' H' : Hp} {F F' : List Addr} {σ : L2.St} {E : Ends}

/-! ### owned results -/
/-- a call's result frozen -/
def dFz (a : DOw) : DE := fun Γ => match a Γ with
  | .ok o Γ' => (match o.d with
    | some d => .ok d Γ'
    | none => .bad)
  | .ex x Γ' => .ex x Γ'
  | .bad => .bad
theorem sd_ofO {e : Expr} {a : DOw} (h : SOw X W e a) : SD X true W e (dFz a) := PE.imp h fun σ H Q ⟨ρ, G, F, Γ, r, h⟩ => by
  refine ⟨ρ, G, F, Γ, r, ?_⟩
  unfold dFz at h
  cases ea : a Γ with
  | bad => rw [ea] at h; exact h
  | ex x Γ' => rw [ea] at h; exact h
  | ok o Γ' =>
    rw [ea] at h
    dsimp only at h
    cases ed : o.d with
    | none => rw [ed] at h; exact False.elim h
    | some d =>
      rw [ed] at h
      intro v G' H' F' Fo fr rr ow nd gn
      have hd : Den X.K (icy G' H' Fo) d v := Ow.icy gn o v Fo d (fun _ z => z) ow ed
      have f2 : Fr G' H' (Fo ++ F') (icy G' H' Fo) H' F' := icy_gr rr.sub gn (fun a z => List.mem_append_left _ z) F' fun a z => List.mem_append_right _ z
      exact h _ H' F' (Fr.trans fr f2) (rr.icy gn nd) v hd
def dSetO (i : Nat) (a : DOw) : DS := fun Γ => (a Γ).bind fun o Γ => .ok .nx (Γ.set i (.ow none o))
theorem R.put {Γ : Ga} {o : O} {v : V} {Fo : List Addr} (r : R K ρ G H F σ Γ) (i : Nat) (h : Ow K G H o v Fo) (nd : (Fo ++ F).Nodup) (gn : ∀ a ∈ Fo, G a = none) : ∃ F', (∀ a ∈ F', a ∈ Fo ++ F) ∧ R K ρ G H F' (σ.set i (some v)) (Γ.set i (.ow none o)) := by
  by_cases hi : i < Γ.length
  · obtain ⟨F1, hF1, r1⟩ := r.drop (x := some v) hi
    obtain ⟨F2, hF2, r2⟩ := r1.give (i := i) (t := none) (v := v) (by rw [List.getElem?_set_self hi]) (fun k e => nomatch e) h (by
      rw [List.nodup_append] at nd ⊢
      exact ⟨nd.1, r1.nd, fun a ha b hb => nd.2.2 a ha b (hF1 b hb)⟩) gn
    rw [List.set_set, List.set_set] at r2
    refine ⟨F2, fun a ha => ?_, r2⟩
    rcases List.mem_append.mp ((hF2 a).mp ha) with z | z
    · exact List.mem_append_left _ z
    · exact List.mem_append_right _ (hF1 a z)
  · refine ⟨F, fun a z => List.mem_append_right _ z, ?_⟩
    rw [List.set_eq_of_length_le (by have := r.len; omega), List.set_eq_of_length_le (by omega)]
    exact r
theorem ss_setO {i : Nat} {x : Str} {e : Expr} {a : DOw} {pos pos' : Pos} (hN : X.N.Nodup) (hi : X.N[i]? = some x) (hx : Loc X.env.scope x) (he : SOw X W e a) (hs : swapsWith e (some (.Name x pos')) pos.line X.env = pure false := by rfl) (hf : X.fn x = true ∨ X.env.scope.names.lookup x = some .local := by first | exact .inl rfl | exact .inr rfl | assumption) :
    SS X W (.Assign [.Name x pos'] e pos) (dSetO i a) := (ps_set hN hi hx he hs hf).imp fun E σ H ⟨ρ, G, F, Γ, r, h⟩ => by
  refine ⟨ρ, G, F, Γ, r, ?_⟩
  unfold dSetO at h
  cases ea : a Γ with
  | bad => rw [ea] at h; exact h
  | ex x Γ' => rw [ea] at h; exact fun dd G2 H2 F2 b r2 xc => h dd σ G2 H2 F2 b r2 xc
  | ok o Γ' =>
    rw [ea] at h
    intro v G' H' F' Fo fr rr ow nd gn
    obtain ⟨F2, hF2, r2⟩ := rr.put i ow nd gn
    exact AftS.nx r2 (AftS.fr (fr.mono (fun _ z => z) hF2) h)
/-- return of an owned slot -/
def dRetO (i : Nat) : DS := fun Γ => match Γ[i]? with
  | some (.ow _ o) => .ok (.rt o) (Γ.set i .no)
  | _ => .bad
theorem ss_retO (i : Nat) {x : Str} {p pos : Pos} (hN : PE X (.Name x p) (tVar i)) : SS X W (.Return (some (.Name x p)) pos) (dRetO i) := (ps_ret hN).imp fun E σ H ⟨ρ, G, F, Γ, r, h⟩ => by
  unfold dRetO at h
  split at h
  · rename_i t o e
    obtain ⟨v, Fi, F1, hv, ht, how, r1, nd, hm, gn⟩ := r.take e
    refine ⟨v, hv, h σ G H F1 (Fr.sub fun a z => (hm a).mpr (List.mem_append_right _ z)) r1 v Fi how nd gn fun a z => .inl ((hm a).mpr (List.mem_append_left _ z))⟩
  · exact False.elim h
/-- a frozen result as an owned one -/
def dUp (a : DE) : DOw := fun Γ => (a Γ).bind fun d Γ => .ok (.fz d) Γ
theorem so_up {e : Expr} {a : DE} (h : SD X true W e a) : SOw X W e (dUp a) := PE.imp h fun σ H Q ⟨ρ, G, F, Γ, r, h⟩ => by
  refine ⟨ρ, G, F, Γ, r, ?_⟩
  unfold dUp at h
  cases ea : a Γ with
  | bad => rw [ea] at h; exact h
  | ex x Γ' => rw [ea] at h; exact h
  | ok d Γ' =>
    rw [ea] at h
    intro G' H' F' fr rr v hd
    exact h v G' H' F' [] fr rr ⟨rfl, hd⟩ rr.nd fun a z => nomatch z

/-! ### fresh lists that are owned -/
/-- r does at values what f says, with a fresh owned result -/
def VopO (K : PySem.W.Frag) (r : List V → Hp → VK → Prop) (f : List D → Option O) : Prop := ∀ G H vs ds Q o, Same G H → Dens K G ds vs → f ds = some o →
  (∀ v H' Fo, (∀ b, H b ≠ none → H' b = H b) → Ow K G H' o v Fo → Fo.Nodup → (∀ a ∈ Fo, H a = none) → Q v H') → r vs H Q
def dO (f : List D → Option O) (a : DA) : DOw := fun Γ => (a Γ).bind fun ds Γ => Res.ofO (f ds) Γ
theorem same_none (s : Same G H) {a : Addr} (h : H a = none) : G a = none := s.free h
theorem AftO.fresh {Γ : Ga} {o : O} {v : V} {H' : Hp} {Fo : List Addr} {Q : VK} (r : R K ρ G H F σ Γ) (h : AftO K W ρ G H F σ (.ok o Γ) Q) (k : ∀ b, H b ≠ none → H' b = H b) (ow : Ow K G H' o v Fo) (nd : Fo.Nodup) (fr : ∀ a ∈ Fo, H a = none) : Q v H' := by
  have dom := r.sl.dom
  refine h v G H' F Fo ⟨fun _ _ e => e, fun b n _ => ⟨k b n, rfl⟩, fun a z => ?_, fun b n => by rw [k b n]; exact n⟩ ⟨fun b u e => ?_, r.sl.frame (Same.refl _) fun a ha => k a (dom a ha), r.nd, r.gn⟩ ow ?_ fun a z => r.sub.free (fr a z)
  · exact (List.mem_append.mp z).elim (fun q => .inr (fr a q)) .inl
  · have := r.sub b u e
    rw [k b (by rw [this]; exact fun q => nomatch q)]; exact this
  · rw [List.nodup_append]
    exact ⟨nd, r.nd, fun a ha b hb z => dom b hb (z ▸ fr a ha)⟩
theorem leO {δ : DA} {f : List D → Option O} {r : List V → Hp → VK → Prop} (hr : VopO X.K r f) (σ : L2.St) (H : Hp) (Q : VK) (h : LOw X.K W (dO f δ) σ H Q) : LA X.K true W δ σ H fun vs H1 => r vs H1 Q := by
  obtain ⟨ρ, G, F, Γ, rr, h⟩ := h
  refine ⟨ρ, G, F, Γ, rr, (AftO.bind h).mono fun ds Γ1 G1 H1 F1 ⟨r1, h1⟩ vs hds => ?_⟩
  cases e : f ds with
  | none => rw [e] at h1; exact False.elim h1
  | some o =>
    rw [e] at h1
    exact hr G1 H1 vs ds Q o r1.sub hds e fun v H' Fo k ow nd fr => AftO.fresh r1 h1 k ow nd fr
theorem so_callTy {x : Str} {p pos : Pos} {e : Expr} {es : List Expr} {δ : DA} {T : String} {r : List V → Hp → VK → Prop} {f : List D → Option O} (hc : CallR X (.type T) r) (hv : VopO X.K r f) (hg : Gl X x) (hm : X.mg x = none) (hb : bootBuiltins x = some (.type T)) (ha : SA X true W (e :: es) δ) (hn : x ≠ "__name__" := by decide) (hdb : (x == ("__debug__" : Str)) = false := by decide)
    (he : starEach (e :: es) X.env = (false, eval e X.env) :: starEach es X.env := by rfl) (hpl : (backTo pos (starEach es X.env)).any (·.1) = false := by rfl) : SOw X W (.Call (.Name x p) (e :: es) [] pos) (dO f δ) := (pe_callTy hc hg hm hb ha hn hdb he hpl).imp (leO hv)
theorem so_callB {x : Str} {p pos : Pos} {e : Expr} {es : List Expr} {δ : DA} {id : String} {r : List V → Hp → VK → Prop} {f : List D → Option O} (hc : CallR X (.builtin id) r) (hv : VopO X.K r f) (hg : Gl X x) (hm : X.mg x = none) (hb : bootBuiltins x = some (.builtin id)) (ha : SA X true W (e :: es) δ) (hn : x ≠ "__name__" := by decide) (hdb : (x == ("__debug__" : Str)) = false := by decide)
    (he : starEach (e :: es) X.env = (false, eval e X.env) :: starEach es X.env := by rfl) (hpl : (backTo pos (starEach es X.env)).any (·.1) = false := by rfl) : SOw X W (.Call (.Name x p) (e :: es) [] pos) (dO f δ) := (pe_callB hc hg hm hb ha hn hdb he hpl).imp (leO hv)
/-- an owned list of frozen things -/
abbrev O.lf (ds : List D) : O := .ol (ds.map .fz)
theorem Ows.fzs {G H : Hp} : ∀ {ds : List D} {vs : List V}, Dens K G ds vs → Ows K G H (ds.map .fz) vs []
  | [], vs, h => by simp only [Dens] at h; exact ⟨h, rfl⟩
  | d :: ds, vs, h => by
    obtain ⟨v, r, rfl, h2, h3⟩ := h
    exact ⟨v, r, [], [], rfl, rfl, ⟨rfl, h2⟩, Ows.fzs h3⟩
theorem ow_list {G H : Hp} {ds : List D} {vs : List V} {p : Addr} (h : Dens K G ds vs) (e : H p = some (.lst vs)) : Ow K G H (O.lf ds) (.ref p) [p] := by
  simp only [O.lf, Ow]
  exact ⟨p, vs, [], rfl, rfl, e, Ows.fzs h⟩
@[simp] theorem ds_fz : ∀ ds : List D, O.ds (ds.map .fz) = some ds
  | [] => rfl
  | d :: ds => by simp [O.ds, O.d, ds_fz ds]
@[simp] theorem lf_d (ds : List D) : (O.lf ds).d = some (.lst ds) := by simp [O.lf, O.d]
def foList : List D → Option O
  | [.lst xs] => some (O.lf xs)
  | [.tup xs] => some (O.lf xs)
  | _ => none
theorem vo_list : VopO K (fun xs H Q => ∃ p ys, xs = [.ref p] ∧ (SqL K H p ys ∨ SqT K H p ys) ∧ ∀ l, H l = none → Q (.ref l) (upd H l (.lst ys))) foList := by
  intro G H vs ds Q o s hd e h
  cases ds with
  | nil => cases e
  | cons d r =>
    cases r with
    | cons _ _ => cases d <;> cases e
    | nil =>
      obtain ⟨v, r, rfl, h2, h3⟩ := hd
      simp only [Dens] at h3
      subst h3
      cases d <;> cases e
      · rename_i xs
        obtain ⟨a, vs, rfl, h4, h5⟩ := h2
        refine ⟨a, vs, rfl, .inr (sqT_mono s h4), fun l hl => h _ _ [l] (fun b n => upd_ne fun z => n (by rw [z]; exact hl)) (ow_list h5 upd_same) (by simp) fun x hx => ?_⟩
        rw [List.mem_singleton.mp hx]; exact hl
      · rename_i xs
        obtain ⟨a, vs, rfl, h4, h5⟩ := h2
        refine ⟨a, vs, rfl, .inl (s.seq h4), fun l hl => h _ _ [l] (fun b n => upd_ne fun z => n (by rw [z]; exact hl)) (ow_list h5 upd_same) (by simp) fun x hx => ?_⟩
        rw [List.mem_singleton.mp hx]; exact hl
def foLst (ds : List D) : Option O := if sizeOk ds.length then some (O.lf ds) else none
theorem so_lst {es : List Expr} {δ : DA} {pos} (h : SA X true W es δ) : SOw X W (.List es pos) (dO foLst δ) := (pe_lst h).imp (leO (r := fun xs H1 Q => xs.length ≤ sizeLine ∧ ∀ p, H1 p = none → Q (.ref p) (upd H1 p (.lst xs))) (by
  intro G H vs ds Q o s hd e h
  unfold foLst at e
  split at e
  · rename_i hz
    cases e
    refine ⟨by rw [hd.length]; exact sizeOk_le hz, fun l hl => h _ _ [l] (fun b n => upd_ne fun z => n (by rw [z]; exact hl)) (ow_list hd upd_same) (by simp) fun x hx => ?_⟩
    rw [List.mem_singleton.mp hx]; exact hl
  · cases e))

/-! ### what a for walks -/
def Yields (K : PySem.W.Frag) (G : Hp) (J : It) (ds : List D) : Prop := ∀ i G1 H1, Same G G1 → Same G1 H1 →
  (∀ d, ds[i]? = some d → J.go i H1 ∧ ∀ x H', J.yld i H1 x H' → ∃ G', Gr G1 H1 G' H' ∧ Den K G' d x) ∧ (ds.length ≤ i → J.stop i H1)
abbrev DI := Ga → Res (List D)
def LI (K : PySem.W.Frag) (m : Bool) (W : WX) (δ : DI) : TI := fun σ H Rr => ∃ ρ G F Γ, R K ρ G H F σ Γ ∧ Aft K m W ρ G H F σ (δ Γ) fun ds _ G' H' _ => ∀ J, Yields K G' J ds → Rr J H'
def SI (X : Cx) (m : Bool) (W : WX) (tg iter : Expr) (δ : DI) : Prop := PI X tg iter (LI X.K m W δ)
/-- the items of a list or a tuple -/
def D.items : D → Option (List D)
  | .lst xs => some xs
  | .tup xs => some xs
  | _ => none
def diL (a : DE) : DI := fun Γ => (a Γ).bind fun d Γ => (match d with
  | .lst xs => .ok xs Γ
  | _ => .bad)
def diT (a : DE) : DI := fun Γ => (a Γ).bind fun d Γ => (match d with
  | .tup xs => .ok xs Γ
  | _ => .bad)
theorem yields_list {a : Addr} {vs : List V} {ds : List D} (h : SqL K G a vs) (hd : Dens K G ds vs) : Yields K G (Itl K a) ds := fun i G1 H1 s1 s2 => by
  have hS : SqL K H1 a vs := s2.seq (s1.seq h)
  refine ⟨fun d e => ?_, fun hi => ⟨vs, hS, by rw [hd.length]; exact hi⟩⟩
  obtain ⟨v, hv, hdv⟩ := hd.get e
  exact ⟨⟨vs, v, hS, hv⟩, fun x H' ⟨eH, y⟩ => by
    subst eH
    have := y vs hS
    rw [hv] at this
    cases this
    exact ⟨G1, Gr.refl s2, Den.mono s1 _ _ hdv⟩⟩
theorem yields_tup {a : Addr} {vs : List V} {ds : List D} (h : SqT K G a vs) (hd : Dens K G ds vs) : Yields K G (Itt K a) ds := fun i G1 H1 s1 s2 => by
  have hS : SqT K H1 a vs := sqT_mono s2 (sqT_mono s1 h)
  refine ⟨fun d e => ?_, fun hi => ⟨vs, hS, by rw [hd.length]; exact hi⟩⟩
  obtain ⟨v, hv, hdv⟩ := hd.get e
  exact ⟨⟨vs, v, hS, hv⟩, fun x H' ⟨eH, y⟩ => by
    subst eH
    have := y vs hS
    rw [hv] at this
    cases this
    exact ⟨G1, Gr.refl s2, Den.mono s1 _ _ hdv⟩⟩
theorem si_list {tg l : Expr} {a : DE} (h : SD X m W l a) : SI X m W tg l (diL a) := (pi_list h).imp fun σ H Rr ⟨ρ, G, F, Γ, r, h⟩ => by
  refine ⟨ρ, G, F, Γ, r, (Aft.bind h).mono fun d Γ1 G1 H1 F1 ⟨r1, h1⟩ v hd => ?_⟩
  cases d with
  | lst xs =>
    obtain ⟨a, vs, rfl, h2, h3⟩ := hd
    exact ⟨a, rfl, ⟨vs, r1.sub.seq h2⟩, h1 G1 H1 F1 (Step.refl r1.sub) r1 _ (yields_list h2 h3)⟩
  | _ => exact False.elim h1
theorem si_tup {tg l : Expr} {a : DE} (h : SD X m W l a) : SI X m W tg l (diT a) := (pi_tup h).imp fun σ H Rr ⟨ρ, G, F, Γ, r, h⟩ => by
  refine ⟨ρ, G, F, Γ, r, (Aft.bind h).mono fun d Γ1 G1 H1 F1 ⟨r1, h1⟩ v hd => ?_⟩
  cases d with
  | tup xs =>
    obtain ⟨a, vs, rfl, h2, h3⟩ := hd
    exact ⟨a, rfl, ⟨vs, sqT_mono r1.sub h2⟩, h1 G1 H1 F1 (Step.refl r1.sub) r1 _ (yields_tup h2 h3)⟩
  | _ => exact False.elim h1
def rangeD (lo : Int) (n : Nat) : List D := (List.range n).map fun i => .int (lo + (i : Nat))
theorem yields_range (lo : Int) (n : Nat) : Yields K G (Itr lo n) (rangeD lo n) := fun i G1 H1 s1 s2 => by
  refine ⟨fun d e => ?_, fun hi => (by simpa [rangeD] using hi : n ≤ i)⟩
  simp only [rangeD, List.getElem?_map, Option.map_eq_some_iff] at e
  obtain ⟨k, e, rfl⟩ := e
  obtain ⟨hk, e⟩ := List.getElem?_eq_some_iff.mp e
  simp at hk e
  subst e
  exact ⟨hk, fun x H' ⟨eH, y⟩ => by subst eH y; exact ⟨G1, Gr.refl s2, rfl⟩⟩
def big (j : Int) : Bool := decide (-(2 ^ 62) ≤ j) && decide (j < 2 ^ 62)
def oR1 : List D → Option (List D)
  | [.int j] => if big j then some (rangeD 0 j.toNat) else none
  | _ => none
def oR2 : List D → Option (List D)
  | [.int i, .int j] => if big i && big j then some (rangeD i (j - i).toNat) else none
  | _ => none
theorem oR1_inv {ds xs : List D} (e : oR1 ds = some xs) : ∃ j, ds = [.int j] ∧ big j = true ∧ xs = rangeD 0 j.toNat := by
  unfold oR1 at e
  split at e
  · split at e
    · rename_i hb; cases e; exact ⟨_, rfl, hb, rfl⟩
    · cases e
  · cases e
theorem oR2_inv {ds xs : List D} (e : oR2 ds = some xs) : ∃ i j, ds = [.int i, .int j] ∧ (big i && big j) = true ∧ xs = rangeD i (j - i).toNat := by
  unfold oR2 at e
  split at e
  · split at e
    · rename_i hb; cases e; exact ⟨_, _, rfl, hb, rfl⟩
    · cases e
  · cases e
def diR (f : List D → Option (List D)) (a : DA) : DI := fun Γ => (a Γ).bind fun ds Γ => Res.ofO (f ds) Γ
theorem si_range1 {tg a : Expr} {δ : DA} {p pos : Pos} (hg : Gl X "range") (hm : X.mg "range" = none) (ha : SA X m W [a] δ) (hs : starEach [a] X.env = [(false, eval a X.env)] := by rfl) : SI X m W tg (.Call (.Name "range" p) [a] [] pos) (diR oR1 δ) := (pi_range1 hg hm ha hs).imp fun σ H Rr ⟨ρ, G, F, Γ, r, h⟩ => by
  refine ⟨ρ, G, F, Γ, r, (Aft.bind h).mono fun ds Γ1 G1 H1 F1 ⟨r1, h1⟩ vs hds => ?_⟩
  cases e : oR1 ds with
  | none => rw [e] at h1; exact False.elim h1
  | some xs =>
    rw [e] at h1
    obtain ⟨j, rfl, hb, rfl⟩ := oR1_inv e
    simp only [big, Bool.and_eq_true, decide_eq_true_eq] at hb
    obtain ⟨v, vr, rfl, hv, hr⟩ := hds
    simp only [Dens] at hr
    subst hr
    cases hv
    exact ⟨j, rfl, hb.1, hb.2, h1 G1 H1 F1 (Step.refl r1.sub) r1 _ (yields_range 0 _)⟩
theorem si_range2 {tg a b : Expr} {δ : DA} {p pos : Pos} (hg : Gl X "range") (hm : X.mg "range" = none) (ha : SA X m W [a, b] δ) (hs : starEach [a, b] X.env = [(false, eval a X.env), (false, eval b X.env)] := by rfl) (hs2 : starEach [b] X.env = [(false, eval b X.env)] := by rfl) : SI X m W tg (.Call (.Name "range" p) [a, b] [] pos) (diR oR2 δ) := (pi_range2 hg hm ha hs hs2).imp fun σ H Rr ⟨ρ, G, F, Γ, r, h⟩ => by
  refine ⟨ρ, G, F, Γ, r, (Aft.bind h).mono fun ds Γ1 G1 H1 F1 ⟨r1, h1⟩ vs hds => ?_⟩
  cases e : oR2 ds with
  | none => rw [e] at h1; exact False.elim h1
  | some xs =>
    rw [e] at h1
    obtain ⟨i, j, rfl, hb, rfl⟩ := oR2_inv e
    simp only [big, Bool.and_eq_true, decide_eq_true_eq] at hb
    obtain ⟨v, vr, rfl, hv, w, wr, rfl, hw, hr⟩ := hds
    simp only [Dens] at hr
    subst hr
    cases hv
    cases hw
    exact ⟨i, j, rfl, ⟨hb.1.1, hb.1.2, hb.2.1, hb.2.2⟩, h1 G1 H1 F1 (Step.refl r1.sub) r1 _ (yields_range i _)⟩

/-! ### for -/
def loopD (g : DG) (body : DS) : List D → DS
  | [], Γ => .ok .nx Γ
  | d :: ds, Γ => match g d Γ with
    | none => .bad
    | some Γ1 => (body Γ1).bind fun f Γ2 => match f with
      | .nx => loopD g body ds Γ2
      | .ct => loopD g body ds Γ2
      | .bk => .ok .nx Γ2
      | .rt o => .ok (.rt o) Γ2
def dFor (src : DI) (g : DG) (body : DS) : DS := fun Γ => (src Γ).bind fun ds Γ => loopD g body ds Γ
theorem ss_for {tg iter : Expr} {body : List Stmt} {src : DI} {ts : List Nat} {g : DG} {β : DS} {pos : Pos} (hp : PassesOwn (model X.prog X.w) X.A X.env X.xe) (hc : X.calm = true) (hi : SI X true W tg iter src) (hg : SG X tg ts g) (hb : SB X W body β)
    (hs : ∀ x, foldedSetIterable iter X.env x = pure x := by intro _; rfl) : SS X W (.For tg iter body [] pos) (dFor src g β) := (ps_for hp hc hi hg hb hs).imp fun E σ H ⟨ρ, G, F, Γ, r, h⟩ => by
  refine ⟨ρ, G, F, Γ, r, (AftS.bind h).mono fun ds Γ1 G1 H1 F1 ⟨⟨r1, f1⟩, h1⟩ J hJ => ?_⟩
  refine ⟨fun i n σ H => n = ds.length - i ∧ i ≤ ds.length ∧ ∃ G F Γ, Same G1 G ∧ R X.K ρ G H F σ Γ ∧ AftS X.K W ρ G H F (loopD g β (ds.drop i) Γ) E, ⟨ds.length, by omega, by omega, G1, F1, Γ1, Same.refl _, r1, by rw [List.drop_zero]; exact h1⟩, ?_⟩
  rintro i n σ2 H2 ⟨rfl, hi2, G2, F2, Γ2, s2, r2, h2⟩
  by_cases hlt : i < ds.length
  · obtain ⟨d, e⟩ : ∃ d, ds[i]? = some d := ⟨ds[i], List.getElem?_eq_getElem hlt⟩
    have ed : ds.drop i = d :: ds.drop (i + 1) := by
      rw [List.drop_eq_getElem_cons hlt]
      have := List.getElem?_eq_getElem hlt
      rw [e] at this
      rw [Option.some.inj this]
    obtain ⟨go, yl⟩ := (hJ i G2 H2 s2 r2.sub).1 d e
    refine .inr ⟨go, fun σ' H' => ∃ G F Γ, Same G1 G ∧ R X.K ρ G H' F σ' Γ ∧ AftS X.K W ρ G H' F (loopD g β (ds.drop (i + 1)) Γ) E, fun σ' H' q => ⟨ds.length - (i + 1), by omega, rfl, hlt, q⟩, fun x H' hy => ?_⟩
    obtain ⟨G3, gr, hx⟩ := yl x H' hy
    rw [ed] at h2
    have r3 := r2.gr gr
    refine ⟨ρ, G3, F2, Γ2, d, r3, hx, ?_⟩
    simp only [loopD] at h2
    cases eg : g d Γ2 with
    | none => rw [eg] at h2; exact False.elim h2
    | some Γ3 =>
      rw [eg] at h2
      dsimp only at h2
      intro σ3 F3 _ hF3 r4
      refine ⟨ρ, G3, F3, Γ3, r4, ?_⟩
      have st : Fr G2 H2 F2 G3 H' F3 := gr.fr.trans (Fr.sub hF3)
      have h3 := AftS.fr st h2
      cases eb : β Γ3 with
      | bad => rw [eb] at h3; exact h3
      | ex x Γ4 => rw [eb] at h3; exact h3
      | ok f Γ4 =>
        rw [eb] at h3
        intro σ4 G4 H4 F4 fr4 r5
        have s4 : Same G1 G4 := (s2.trans gr.g).trans fr4.g
        cases f with
        | nx => exact ⟨G4, F4, Γ4, s4, r5, AftS.fr fr4 h3⟩
        | ct => exact ⟨G4, F4, Γ4, s4, r5, AftS.fr fr4 h3⟩
        | bk => exact h3 σ4 G4 H4 F4 fr4 r5
        | rt o => exact h3 σ4 G4 H4 F4 fr4 r5
  · have e : i = ds.length := by omega
    rw [List.drop_of_length_le (by omega)] at h2
    exact .inl ⟨(hJ i G2 H2 s2 r2.sub).2 (by omega), AftS.nx r2 h2⟩

/-! ### while -/
def whileD (c : DT) (body : DS) : Nat → DS
  | 0, _ => .bad
  | n + 1, Γ => (c Γ).bind fun k Γ1 => if k = true then (body Γ1).bind fun f Γ2 => match f with
      | .nx => whileD c body n Γ2
      | .ct => whileD c body n Γ2
      | .bk => .ok .nx Γ2
      | .rt o => .ok (.rt o) Γ2
    else .ok .nx Γ1
theorem ss_while (n : Nat) {c : Expr} {body : List Stmt} {γ : DT} {β : DS} {pos : Pos} (hp : PassesOwn (model X.prog X.w) X.A X.env X.xe) (hc : ST X true W c γ) (hb : SB X W body β) : SS X W (.While c body [] pos) (whileD γ β n) := (ps_while hp hc hb).imp fun E σ H ⟨ρ, G, F, Γ, r, h⟩ => by
  refine ⟨fun m σ H => ∃ G F Γ, R X.K ρ G H F σ Γ ∧ AftS X.K W ρ G H F (whileD γ β m Γ) E, ⟨n, G, F, Γ, r, h⟩, ?_⟩
  rintro k σ2 H2 ⟨G2, F2, Γ2, r2, h2⟩
  cases k with
  | zero => exact False.elim h2
  | succ k =>
    refine ⟨ρ, G2, F2, Γ2, r2, (AftS.bind h2).mono fun t Γ3 G3 H3 F3 ⟨⟨r3, f3⟩, h3⟩ => ?_⟩
    cases t with
    | false => exact AftS.nx r3 h3
    | true =>
      rw [if_pos rfl] at h3
      refine ⟨fun σ' H' => ∃ m', m' < k + 1 ∧ ∃ G F Γ, R X.K ρ G H' F σ' Γ ∧ AftS X.K W ρ G H' F (whileD γ β m' Γ) E, fun σ' H' q => q, ρ, G3, F3, Γ3, r3, ?_⟩
      cases eb : β Γ3 with
      | bad => rw [eb] at h3; exact h3
      | ex x Γ4 => rw [eb] at h3; exact h3
      | ok f Γ4 =>
        rw [eb] at h3
        intro σ4 G4 H4 F4 fr4 r5
        cases f with
        | nx => exact ⟨k, by omega, G4, F4, Γ4, r5, AftS.fr fr4 h3⟩
        | ct => exact ⟨k, by omega, G4, F4, Γ4, r5, AftS.fr fr4 h3⟩
        | bk => exact h3 σ4 G4 H4 F4 fr4 r5
        | rt o => exact h3 σ4 G4 H4 F4 fr4 r5
end
end DL
end
section
set_option Elab.async false
set_option linter.all false
set_option maxRecDepth 100000
/-! DL10: enumerate over a tuple (a rule of my own), enumerate and zip over data, comprehensions. -/
namespace L2
open PySem PySem.Spec PyProof.Rows
section
variable {prog : Program} {w : World} {A : Around} {E : Value → Shared → Prop} {s : Shared}
set_option maxHeartbeats 1000000 in
theorem meets_enumerate_newT {v : Value} {o : Obj} {H : Heap → Prop} (B : Begins v o H) (hv : ∃ l, v = .ref l) :
    Meets (Builtin.«enumerate.__new__» ⟨[.type "enumerate", v], []⟩) (fun _ R s => H s.heap ∧
      R (.ok (.ret (.ref (s.heap.push o).objs.size))) { s with heap := (s.heap.push o).push { cls := .type "enumerate", data := .fields #[.none, .bool false, .ref s.heap.objs.size, rawInt 0, .none, .none] } }) :=
  .of_wp fun prog w A R s h => by
    obtain ⟨hp, g, d, tk, os⟩ := s; obtain ⟨h1, h⟩ := h
    obtain ⟨l, rfl⟩ := hv
    have hsub := sub_enumerate
    have q1 : ∀ {A' : Around} {E : Value → Shared → Prop} {Q : Value → Shared → Prop}, Q (.ref hp.objs.size) ⟨hp.push o, g, d, tk, os⟩ → wpAny (model prog w) A' (pyIter (.ref l)) Q E ⟨hp, g, d, tk, os⟩ :=
      fun q => B.iter prog w _ _ ⟨hp, g, d, tk, os⟩ _ h1 q
    wp_walk using q1
    refine wpAny_stack_any fun st => wpAny_pure ?_
    split
    · rename_i c _ _ _ _ _
      cases (c == Value.type "enumerate")
      · wp_walk using q1
        exact ⟨_, rfl, h⟩
      · wp_walk using q1
        exact ⟨_, rfl, h⟩
    · wp_walk using q1
      exact ⟨_, rfl, h⟩
theorem call_enumerate_tuple {l : Addr} {items : Array Value} {Q : Value → Shared → Prop} (hL : s.heap.IsTuple l items)
    (h : ∀ h', IsEnum h' (s.heap.objs.size + 1) s.heap.objs.size 0 .none → h'.IsTupleIter s.heap.objs.size l 0 → h'.objs.size = s.heap.objs.size + 2 →
      (∀ b o, s.heap.get? b = some o → h'.get? b = some o) → Q (.ref (s.heap.objs.size + 1)) { s with heap := h' }) :
    wpAny (model prog w) A (call (.type "enumerate") [.ref l]) Q E s := by
  refine callType_new F.called_enumerate (by decide) (F.typeCall_enumerate_1 _) (F.newCall_enumerate_1 _) (fun obj => F.args_object_init_2 obj _) F.entry_enumerate_new
    (meets_enumerate_newT (begins_tuple l items) ⟨l, rfl⟩) ⟨hL, ?_⟩
  have hz : (s.heap.push { cls := .type "tuple_iterator", data := .fields #[.ref l, .int 0 0] }).objs.size = s.heap.objs.size + 1 := Heap.size_push ..
  show _ ∧ _
  rw [hz]
  have he : IsEnum ((s.heap.push { cls := .type "tuple_iterator", data := .fields #[.ref l, .int 0 0] }).push
      { cls := .type "enumerate", data := .fields #[.none, .bool false, .ref s.heap.objs.size, rawInt 0, .none, .none] }) (s.heap.objs.size + 1) s.heap.objs.size 0 .none := by
    have := Heap.get?_push_size (s.heap.push { cls := .type "tuple_iterator", data := .fields #[.ref l, .int 0 0] })
      (o := { cls := .type "enumerate", data := .fields #[.none, .bool false, .ref s.heap.objs.size, rawInt 0, .none, .none] }) rfl
    rw [hz] at this; exact this
  refine ⟨⟨_, he, rfl⟩, h _ he ⟨_, Heap.get?_push_of_some _ (Heap.get?_push_size _ rfl), rfl, rfl⟩ (by rw [Heap.size_push, hz]) fun b o x => Heap.get?_push_of_some _ (Heap.get?_push_of_some _ x)⟩
end
/-- the tuple at a, each item in a new pair -/
def IteT (K : PySem.W.Frag) (a : Addr) : It :=
  ⟨fun i H => ∃ (xs : List V) (x : V), SqT K H a xs ∧ xs[i]? = some x, fun i H v H' => ∃ T x, v = .ref T ∧ H T = none ∧ H' = upd H T (.tup [.int (i : Nat), x]) ∧ ∀ xs, SqT K H a xs → xs[i]? = some x, fun i H => ∃ xs : List V, SqT K H a xs ∧ xs.length ≤ i⟩
theorem turn_enumT {P : Program} {w : World} {K : PySem.W.Frag} {elts : List Expr} {kk : Nat} {tpos : Pos} (a e it : Addr) (hea : e ≠ a) (hia : it ≠ a) :
    Turn P w K (.Tuple elts kk tpos) (IteT K a) [e, it] e (fun i h => (∃ old, IsEnum h e it ((i : Nat) : Int) old) ∧ h.IsTupleIter it a i ∧ e ≠ it) where
  mem := by simp
  obj := fun i h st b hb => by
    obtain ⟨⟨old, he⟩, ⟨o, ho, hc, hd⟩, _⟩ := st
    have e' : b = e ∨ b = it := by simpa using hb
    rcases e' with z | z
    · rw [z]; exact ⟨_, he, fun v q => nomatch q⟩
    · rw [z]; exact ⟨o, ho, fun v q => by rw [hd] at q; cases q⟩
  keep := fun i h h' st k => let ⟨⟨old, he⟩, hi, hne⟩ := st; ⟨⟨old, k e (by simp) _ he⟩, hi.at fun o q => k it (by simp) o q, hne⟩
  item := by
    intro X hP hw hK hc i pins s σ H E I hf st hg
    subst hP hw hK
    obtain ⟨⟨old, he⟩, hit, hne⟩ := st
    obtain ⟨xs, x, hq, hx⟩ := hg
    obtain ⟨its, rv, p, hz⟩ := I.tuple hq
    obtain ⟨u, hu, ru⟩ := rv.get hx
    have hel : e < s.heap.objs.size := Heap.lt_size he
    have hil : it < s.heap.objs.size := by obtain ⟨_, q, _⟩ := hit; exact Heap.lt_size q
    have hlt : i < its.toArray.size := by
      have := (List.getElem?_eq_some_iff.mp hu).1
      simpa using this
    refine wpAny_pyNext_enum_itemD (Draws.tuple (prog := X.prog) (w := X.w) (A := X.A.in1) (show X.A.in1.handled = none from I.ok.hd hc) it a (Ne.symm hia) its.toArray) he ⟨hit, p⟩ hlt hne (by simp [hne, hea]) fun y h' tk hy ho hit' hT hsz hk => ?_
    have ey : y = u := by
      have hy : its.toArray[i]? = some y := hy
      rw [show its.toArray[i]? = its[i]? by simp] at hy
      rw [hu] at hy
      exact (Option.some.inj hy).symm
    subst ey
    refine ⟨_, rfl, wpAny_letOwnedTupleGo_enum (s := { s with heap := h', toks := tk + 1 }) ho fun h'' he' sb => ?_⟩
    have hT2 : h''.get? s.heap.objs.size = some { cls := .type "tuple", data := .seq #[.int i tk, y] } := (sb.2 _ (Nat.ne_of_gt hel)).trans hT
    have new : ObjOk X.prog X.w (upd H s.heap.objs.size (.tup [.int (i : Nat), x])) h'' s.heap.objs.size (.tup [.int (i : Nat), x]) :=
      ⟨by show 2 ≤ sizeLine; decide, [.int i tk, y], .cons ⟨_, rfl⟩ (.cons ru .nil), ⟨_, hT2, rfl, _, rfl⟩⟩
    have I1 : Inv X pins σ (upd H s.heap.objs.size (.tup [.int (i : Nat), x])) { s with heap := h'', toks := tk + 1 } :=
      I.turnedNew (ch := [e, it]) (fun b ob hb q => (sb.2 b (fun z => hb (by simp [z]))).trans (hk b ob (fun z => hb (by simp [z])) (fun z => hb (by simp [z])) q)) hf (Nat.le_refl _) new
    refine ⟨.ref s.heap.objs.size, _, I1, rfl, ⟨_, x, rfl, I.hok.fresh (Nat.le_refl _), rfl, fun ys hy => by rw [I.tuple_inj hy hq]; exact hx⟩, ⟨⟨y, ?_⟩, hit'.1.at fun o q => (sb.2 it (Ne.symm hne)).trans q, hne⟩, fun b hb => ?_⟩
    · have e1 : ((i + 1 : Nat) : Int) = (i : Int) + 1 := by omega
      rw [e1]; exact he'
    · have hb' : b < s.heap.objs.size := by
        have e' : b = e ∨ b = it := by simpa using hb
        rcases e' with z | z
        · rw [z]; exact hel
        · rw [z]; exact hil
      rw [upd_ne (Nat.ne_of_lt hb')]
      exact (hf b hb).1
  done := by
    intro X hP hw hK hc i pins s σ H E I hf st hg
    subst hP hw hK
    obtain ⟨⟨old, he⟩, hit, hne⟩ := st
    obtain ⟨xs, hq, hx⟩ := hg
    obtain ⟨its, rv, p, hz⟩ := I.tuple hq
    obtain ⟨f0, f1, f2, f3, f4, f5⟩ := hf it (by simp)
    have hl := rv.length
    have st2 : s.heap.IsTupleIter it a i ∧ s.heap.IsTuple a its.toArray := ⟨hit, p⟩
    unfold pyNext
    refine wpAny_bind (wpAny_attempt (wpAny_callSpecial?_slot (name := Str.ofString "__next__") (⟨_, he, rfl⟩ : s.TypeIs (.ref e) "enumerate") F.slot_enumerate_next
      (wpAny_call_entry F.slot_enumerate_next ⟨_, he, rfl⟩ F.entry_enumerate_next ?_ (F.args_enumerate_next_1 _))))
    show wpAny _ _ (field (.ref e) 2 >>= _) _ _ _
    refine wpAny_bind (wpAny_field he rfl (x := .ref it) rfl ?_)
    refine wpAny_bind (wpAny_nextOf_tuple_end (I.ok.hd hc) hit p (by simp; omega) fun h' x he' hx' => ?_)
    obtain ⟨o, ho, hc⟩ := hx'
    refine wpAny_bind (wpAny_isInstance (T := "StopIteration") (b := true) ⟨o, ho, hc⟩ isSubtype_stop ?_)
    exact wpAny_pure ⟨rfl, I.turned (t' := s.toks) (fun b o hb q => he' b o hb q) f0 f1 f3 f4 f5⟩
  self := fun A i s Q E st h => let ⟨⟨_, he⟩, _⟩ := st; wpAny_pyIter_enum he h
def iEnumT (K : PySem.W.Frag) (ta : TA) : TI := fun σ H R => ta σ H fun vs H1 => ∃ a xs, vs = [.ref a] ∧ SqT K H1 a xs ∧ R (IteT K a) H1
theorem pi_enumT {X : Cx} {e : Expr} {ta : TA} {p pos tpos : Pos} {elts : List Expr} {kk : Nat} (hg : Gl X "enumerate") (hm : X.mg "enumerate" = none) (ha : PA X [e] ta) (hs : starEach [e] X.env = [(false, eval e X.env)] := by rfl) :
    PI X (.Tuple elts kk tpos) (.Call (.Name "enumerate" p) [e] [] pos) (iEnumT X.K ta) := by
  refine ⟨fun pins s σ H R I h => ?_⟩
  refine Call_ (ld_blt I hg hm boot_enumerate (PyProof.Rows.callWith_type1 (thn (ha.run pos pins s σ H _ I h) fun us s1 ⟨vs, H1, I1, r1, q1⟩ => ?_) hs rfl))
  obtain ⟨a, xs, ex, hq, q⟩ := q1
  subst ex
  cases r1 with
  | cons r rr =>
    cases rr
    cases r
    obtain ⟨its, rv, p', hz⟩ := I1.tuple hq
    have hal : a < s1.heap.objs.size := by obtain ⟨_, q, _⟩ := p'; exact Heap.lt_size q
    refine call_enumerate_tuple p' fun h' he hit hsz hk => wpAny_pyIter_enum he ?_
    have I2 : Inv X pins σ H1 { s1 with heap := h' } := I1.kept (t' := s1.toks) hk
    refine ⟨s1.heap.objs.size + 1, [s1.heap.objs.size + 1, s1.heap.objs.size], _, _, H1, rfl, I2, turn_enumT a (s1.heap.objs.size + 1) s1.heap.objs.size (Nat.ne_of_gt (Nat.lt_succ_of_lt hal)) (Nat.ne_of_gt hal), ⟨⟨.none, he⟩, hit, Nat.succ_ne_self _⟩, fun b hb => ?_, q⟩
    have e' : b = s1.heap.objs.size + 1 ∨ b = s1.heap.objs.size := by simpa using hb
    have hle : s1.heap.objs.size ≤ b := by
      rcases e' with z | z
      · rw [z]; exact Nat.le_add_right _ _
      · rw [z]; exact Nat.le_refl _
    exact I1.fpOk hle (I1.hok.fresh hle)
end L2
end
section
set_option Elab.async false
set_option linter.all false
set_option maxRecDepth 100000
/-! DL11: what a for walks, lists and tuples alike; comprehensions. -/
namespace L2
open PySem PySem.Spec PyProof.Rows
section
variable {X : Cx} {tg : Expr}
def iSeq (K : PySem.W.Frag) (tl : TE) : TI := fun σ H R => tl σ H fun x H1 => ∃ a xs, x = .ref a ∧ ((SqL K H1 a xs ∧ R (Itl K a) H1) ∨ (SqT K H1 a xs ∧ R (Itt K a) H1))
theorem pi_seq {l : Expr} {tl : TE} (hl : PE X l tl) : PI X tg l (iSeq X.K tl) := by
  refine ⟨fun pins s σ H R I h => ?_⟩
  refine thn (hl.run pins s σ H _ I h) fun v s1 ⟨x, H1, I1, r1, a, xs, e, h1⟩ => ?_
  subst e
  cases r1
  rcases h1 with ⟨hq, q⟩ | ⟨hq, q⟩
  · obtain ⟨its, rv, p, hz⟩ := I1.list hq
    refine wpAny_pyIter_list p.isList ?_
    refine ⟨s1.heap.objs.size, [s1.heap.objs.size], _, _, H1, rfl, I1.kept (t' := s1.toks) fun b o e => Heap.get?_push_of_some _ e, turn_list a _, ⟨_, Heap.get?_push_size _ rfl, rfl, rfl⟩, fun b hb => ?_, q⟩
    have e : b = s1.heap.objs.size := by simpa using hb
    subst e
    exact I1.fpOk (Nat.le_refl _) (I1.hok.fresh (Nat.le_refl _))
  · obtain ⟨its, rv, p, hz⟩ := I1.tuple hq
    refine wpAny_pyIter_tuple (show s1.heap.IsTuple a its.toArray from p) ?_
    refine ⟨s1.heap.objs.size, [s1.heap.objs.size], _, _, H1, rfl, I1.kept (t' := s1.toks) fun b o e => Heap.get?_push_of_some _ e, turn_tuple a _, ⟨_, Heap.get?_push_size _ rfl, rfl, rfl⟩, fun b hb => ?_, q⟩
    have e : b = s1.heap.objs.size := by simpa using hb
    subst e
    exact I1.fpOk (Nat.le_refl _) (I1.hok.fresh (Nat.le_refl _))
def iEnumA (K : PySem.W.Frag) (ta : TA) : TI := fun σ H R => ta σ H fun vs H1 => ∃ a xs, vs = [.ref a] ∧ ((SqL K H1 a xs ∧ R (Ite K a) H1) ∨ (SqT K H1 a xs ∧ R (IteT K a) H1))
theorem pi_enumA {e : Expr} {ta : TA} {p pos tpos : Pos} {elts : List Expr} {kk : Nat} (hg : Gl X "enumerate") (hm : X.mg "enumerate" = none) (ha : PA X [e] ta) (hs : starEach [e] X.env = [(false, eval e X.env)] := by rfl) :
    PI X (.Tuple elts kk tpos) (.Call (.Name "enumerate" p) [e] [] pos) (iEnumA X.K ta) := by
  refine ⟨fun pins s σ H R I h => ?_⟩
  refine Call_ (ld_blt I hg hm boot_enumerate (PyProof.Rows.callWith_type1 (thn (ha.run pos pins s σ H _ I h) fun us s1 ⟨vs, H1, I1, r1, q1⟩ => ?_) hs rfl))
  obtain ⟨a, xs, ex, h1⟩ := q1
  subst ex
  cases r1 with
  | cons r rr =>
    cases rr
    cases r
    have cells : ∀ {h' : Heap}, (∀ b o, s1.heap.get? b = some o → h'.get? b = some o) → ∀ b ∈ [s1.heap.objs.size + 1, s1.heap.objs.size], FpOk X pins H1 b := fun _ b hb => by
      have e' : b = s1.heap.objs.size + 1 ∨ b = s1.heap.objs.size := by simpa using hb
      have hle : s1.heap.objs.size ≤ b := by
        rcases e' with z | z
        · rw [z]; exact Nat.le_add_right _ _
        · rw [z]; exact Nat.le_refl _
      exact I1.fpOk hle (I1.hok.fresh hle)
    rcases h1 with ⟨hq, q⟩ | ⟨hq, q⟩
    · obtain ⟨its, rv, p', hz⟩ := I1.list hq
      refine call_enumerate_list p'.isList fun h' he hit hsz hk => wpAny_pyIter_enum he ?_
      have I2 : Inv X pins σ H1 { s1 with heap := h' } := I1.kept (t' := s1.toks) hk
      exact ⟨s1.heap.objs.size + 1, [s1.heap.objs.size + 1, s1.heap.objs.size], _, _, H1, rfl, I2, turn_enum a (s1.heap.objs.size + 1) s1.heap.objs.size, ⟨⟨.none, he⟩, hit, Nat.succ_ne_self _⟩, cells hk, q⟩
    · obtain ⟨its, rv, p', hz⟩ := I1.tuple hq
      have hal : a < s1.heap.objs.size := by obtain ⟨_, q, _⟩ := p'; exact Heap.lt_size q
      refine call_enumerate_tuple p' fun h' he hit hsz hk => wpAny_pyIter_enum he ?_
      have I2 : Inv X pins σ H1 { s1 with heap := h' } := I1.kept (t' := s1.toks) hk
      exact ⟨s1.heap.objs.size + 1, [s1.heap.objs.size + 1, s1.heap.objs.size], _, _, H1, rfl, I2, turn_enumT a (s1.heap.objs.size + 1) s1.heap.objs.size (Nat.ne_of_gt (Nat.lt_succ_of_lt hal)) (Nat.ne_of_gt hal), ⟨⟨.none, he⟩, hit, Nat.succ_ne_self _⟩, cells hk, q⟩
end
end L2
namespace DL
open PySem L2
section
variable {X : Cx} {K : PySem.W.Frag} {m : Bool} {W : WX} {ρ ρ' : List V} {G H G' H' : Hp} {F F' : List Addr} {σ : L2.St} {E : Ends}
def diS (a : DE) : DI := fun Γ => (a Γ).bind fun d Γ => (match d with
  | .lst xs => .ok xs Γ
  | .tup xs => .ok xs Γ
  | _ => .bad)
theorem si_seq {tg l : Expr} {a : DE} (h : SD X m W l a) : SI X m W tg l (diS a) := (pi_seq h).imp fun σ H Rr ⟨ρ, G, F, Γ, r, h⟩ => by
  refine ⟨ρ, G, F, Γ, r, (Aft.bind h).mono fun d Γ1 G1 H1 F1 ⟨r1, h1⟩ v hd => ?_⟩
  cases d with
  | lst xs =>
    obtain ⟨a, vs, rfl, h2, h3⟩ := hd
    exact ⟨a, vs, rfl, .inl ⟨r1.sub.seq h2, h1 G1 H1 F1 (Step.refl r1.sub) r1 _ (yields_list h2 h3)⟩⟩
  | tup xs =>
    obtain ⟨a, vs, rfl, h2, h3⟩ := hd
    exact ⟨a, vs, rfl, .inr ⟨sqT_mono r1.sub h2, h1 G1 H1 F1 (Step.refl r1.sub) r1 _ (yields_tup h2 h3)⟩⟩
  | _ => exact False.elim h1
def numbered (xs : List D) : List D := xs.zipIdx.map fun p => .tup [.int (p.2 : Nat), p.1]
theorem numbered_get {xs : List D} {i : Nat} {d : D} (e : (numbered xs)[i]? = some d) : ∃ x, xs[i]? = some x ∧ d = .tup [.int (i : Nat), x] := by
  simp only [numbered, List.getElem?_map, Option.map_eq_some_iff] at e
  obtain ⟨⟨x, k⟩, e, rfl⟩ := e
  rw [List.getElem?_zipIdx] at e
  simp only [Option.map_eq_some_iff, Prod.mk.injEq] at e
  obtain ⟨y, ey, rfl, rfl⟩ := e
  exact ⟨y, ey, by simp⟩
@[simp] theorem numbered_length (xs : List D) : (numbered xs).length = xs.length := by simp [numbered]
theorem yields_enum {a : Addr} {vs : List V} {ds : List D} (h : SqL K G a vs) (hd : Dens K G ds vs) : Yields K G (Ite K a) (numbered ds) := fun i G1 H1 s1 s2 => by
  have hS : SqL K H1 a vs := s2.seq (s1.seq h)
  refine ⟨fun d e => ?_, fun hi => ⟨vs, hS, by rw [hd.length]; simpa using hi⟩⟩
  obtain ⟨x, ex, rfl⟩ := numbered_get e
  obtain ⟨v, hv, hdv⟩ := hd.get ex
  refine ⟨⟨vs, v, hS, hv⟩, fun y H' ⟨T, z, ey, nT, eH, fz⟩ => ?_⟩
  have ez := fz vs hS
  rw [hv] at ez
  cases ez
  subst ey eH
  have g := Gr.new (o := .tup [.int (i : Nat), v]) s2 nT
  exact ⟨_, g, T, _, rfl, SqT.of upd_same, _, _, rfl, rfl, _, _, rfl, Den.mono (s1.trans g.g) _ _ hdv, rfl⟩
theorem yields_enumT {a : Addr} {vs : List V} {ds : List D} (h : SqT K G a vs) (hd : Dens K G ds vs) : Yields K G (IteT K a) (numbered ds) := fun i G1 H1 s1 s2 => by
  have hS : SqT K H1 a vs := sqT_mono s2 (sqT_mono s1 h)
  refine ⟨fun d e => ?_, fun hi => ⟨vs, hS, by rw [hd.length]; simpa using hi⟩⟩
  obtain ⟨x, ex, rfl⟩ := numbered_get e
  obtain ⟨v, hv, hdv⟩ := hd.get ex
  refine ⟨⟨vs, v, hS, hv⟩, fun y H' ⟨T, z, ey, nT, eH, fz⟩ => ?_⟩
  have ez := fz vs hS
  rw [hv] at ez
  cases ez
  subst ey eH
  have g := Gr.new (o := .tup [.int (i : Nat), v]) s2 nT
  exact ⟨_, g, T, _, rfl, SqT.of upd_same, _, _, rfl, rfl, _, _, rfl, Den.mono (s1.trans g.g) _ _ hdv, rfl⟩
def diE (a : DA) : DI := fun Γ => (a Γ).bind fun ds Γ => (match ds with
  | [.lst xs] => .ok (numbered xs) Γ
  | [.tup xs] => .ok (numbered xs) Γ
  | _ => .bad)
theorem si_enum {e : Expr} {δ : DA} {p pos tpos : Pos} {elts : List Expr} {kk : Nat} (hg : Gl X "enumerate") (hm : X.mg "enumerate" = none) (ha : SA X m W [e] δ) (hs : starEach [e] X.env = [(false, eval e X.env)] := by rfl) :
    SI X m W (.Tuple elts kk tpos) (.Call (.Name "enumerate" p) [e] [] pos) (diE δ) := (pi_enumA hg hm ha hs).imp fun σ H Rr ⟨ρ, G, F, Γ, r, h⟩ => by
  refine ⟨ρ, G, F, Γ, r, (Aft.bind h).mono fun ds Γ1 G1 H1 F1 ⟨r1, h1⟩ vs hd => ?_⟩
  match ds, hd, h1 with
  | [.lst xs], hd, h1 =>
    obtain ⟨v, vr, rfl, ⟨a, vs, rfl, h2, h3⟩, hr⟩ := hd
    simp only [Dens] at hr
    subst hr
    exact ⟨a, vs, rfl, .inl ⟨r1.sub.seq h2, h1 G1 H1 F1 (Step.refl r1.sub) r1 _ (yields_enum h2 h3)⟩⟩
  | [.tup xs], hd, h1 =>
    obtain ⟨v, vr, rfl, ⟨a, vs, rfl, h2, h3⟩, hr⟩ := hd
    simp only [Dens] at hr
    subst hr
    exact ⟨a, vs, rfl, .inr ⟨sqT_mono r1.sub h2, h1 G1 H1 F1 (Step.refl r1.sub) r1 _ (yields_enumT h2 h3)⟩⟩
  | [], hd, h1 => exact False.elim h1
  | [.non], hd, h1 => exact False.elim h1
  | [.bl _], hd, h1 => exact False.elim h1
  | [.int _], hd, h1 => exact False.elim h1
  | [.str _], hd, h1 => exact False.elim h1
  | [.dK _ _], hd, h1 => exact False.elim h1
  | [.dT _ _], hd, h1 => exact False.elim h1
  | a :: _ :: _, hd, h1 => cases a <;> exact False.elim h1

/-! ### comprehensions -/
def nos : List Nat → Ga → Ga
  | [], Γ => Γ
  | v :: vs, Γ => (nos vs Γ).set v .no
def lcL (g : DG) (tt : DT) (te : DE) (vs : List Nat) : List D → Ga → Res (List D)
  | [], Γ => .ok [] Γ
  | d :: ds, Γ => match g d Γ with
    | none => .bad
    | some Γ1 => (match tt Γ1 with
      | .ok b Γ2 => if b = true then (match te Γ2 with
          | .ok y Γ3 => (match lcL g tt te vs ds (nos vs Γ3) with
            | .ok ys Γ4 => .ok (y :: ys) Γ4
            | _ => .bad)
          | _ => .bad)
        else lcL g tt te vs ds (nos vs Γ2)
      | _ => .bad)
/-- a slot behind a comprehension whose own name it is: as it was, if it was frozen -/
def Sl.keep : Sl → Sl
  | .fz d => .fz d
  | _ => .no
/-- the slots behind a comprehension -/
def backs (vs : List Nat) : Nat → Ga → Ga → Ga
  | k, s0 :: Γ0, s :: Γ => (if vs.contains k then s0.keep else s) :: backs vs (k + 1) Γ0 Γ
  | _, _, Γ => Γ
def lcG (src : DI) (g : DG) (tt : DT) (te : DE) (vs : List Nat) : Ga → Res (List D) := fun Γ => (src Γ).bind fun ds Γ1 => if sizeOk ds.length then (match lcL g tt te vs ds (nos vs Γ1) with
  | .ok ys Γ2 => .ok ys (backs vs 0 Γ1 Γ2)
  | _ => .bad) else .bad
theorem R.nos {Γ : Ga} (r : R K ρ G H F σ Γ) : ∀ vs : List Nat, ∃ F', (∀ a ∈ F', a ∈ F) ∧ R K ρ G H F' (wipe σ vs) (DL.nos vs Γ)
  | [] => ⟨F, fun _ z => z, r⟩
  | v :: vs => by
    obtain ⟨F1, h1, r1⟩ := R.nos r vs
    by_cases hi : v < (DL.nos vs Γ).length
    · obtain ⟨F2, h2, r2⟩ := r1.drop (x := none) hi
      exact ⟨F2, fun a z => h1 a (h2 a z), r2⟩
    · refine ⟨F1, h1, ?_⟩
      show R K ρ G H F1 ((wipe σ vs).set v none) ((DL.nos vs Γ).set v .no)
      rw [List.set_eq_of_length_le (by have := r1.len; omega), List.set_eq_of_length_le (by omega)]
      exact r1
theorem wipe_get {σ : L2.St} : ∀ {vs : List Nat} {j : Nat}, (wipe σ vs)[j]? = if j ∈ vs ∧ j < σ.length then some none else σ[j]?
  | [], j => by simp [wipe]
  | v :: vs, j => by
    unfold wipe
    rw [List.getElem?_set, wipe_get (vs := vs)]
    by_cases e : v = j
    · subst e
      by_cases hl : v < σ.length
      · simp [hl, wipe_length]
      · simp [hl, wipe_length]
    · simp [e, Ne.symm e]
theorem wipe_off {σ σ' : L2.St} {ts vs : List Nat} (h : Off ts (wipe σ vs) σ') (hs : ∀ t ∈ ts, t ∈ vs) : wipe σ' vs = wipe σ vs := by
  have hl : σ'.length = σ.length := by rw [h.1, wipe_length]
  apply List.ext_getElem?
  intro j
  rw [wipe_get, wipe_get, hl]
  split
  · rfl
  · rename_i q
    by_cases hj : j ∈ ts
    · have hv := hs j hj
      have : ¬ j < σ.length := fun z => q ⟨hv, z⟩
      rw [List.getElem?_eq_none (by omega), List.getElem?_eq_none (by omega)]
    · rw [h.2 j hj, wipe_get, if_neg q]
theorem SlotRs.merge {vs : List Nat} : ∀ {Γ Γ0 : Ga} {τ σ : L2.St} {F : List Addr} {k : Nat}, SlotRs K ρ G H Γ τ F → (∀ (j : Nat) (d : D), Γ0[j]? = some (Sl.fz d) → ∃ v, σ[j]? = some (some v) ∧ Den K G d v) → (∀ j, vs.contains (k + j) = false → τ[j]? = σ[j]?) → σ.length = τ.length → Γ0.length = Γ.length →
    ∃ F', F'.Sublist F ∧ SlotRs K ρ G H (backs vs k Γ0 Γ) σ F'
  | [], [], τ, σ, F, k, h, h0, hj, hl, hg => by
    obtain ⟨rfl, rfl⟩ := h
    exact ⟨[], List.Sublist.refl _, by simpa using hl, rfl⟩
  | [], _ :: _, τ, σ, F, k, h, h0, hj, hl, hg => by simp at hg
  | _ :: _, [], τ, σ, F, k, h, h0, hj, hl, hg => by simp at hg
  | s :: Γ, s0 :: Γ0, τ, σ, F, k, h, h0, hj, hl, hg => by
    obtain ⟨x, r, F1, F2, rfl, rfl, h2, h3⟩ := h
    cases σ with
    | nil => simp at hl
    | cons y σ =>
      obtain ⟨F3, s3, g3⟩ := SlotRs.merge (vs := vs) (k := k + 1) h3 (Γ0 := Γ0) (σ := σ) (fun j d e => by simpa using h0 (j + 1) d (by simpa using e)) (fun j q => by
        have := hj (j + 1) (by rw [← q]; congr 1; omega)
        simpa using this) (by simpa using hl) (by simpa using hg)
      show ∃ F', F'.Sublist (F1 ++ F2) ∧ SlotRs K ρ G H ((if vs.contains k then s0.keep else s) :: backs vs (k + 1) Γ0 Γ) (y :: σ) F'
      by_cases q : vs.contains k = true
      · rw [if_pos q]
        refine ⟨F3, List.Sublist.trans s3 (List.sublist_append_right _ _), y, σ, [], F3, rfl, rfl, ?_, g3⟩
        cases s0 with
        | fz d =>
          obtain ⟨v, hv, hd⟩ := h0 0 d rfl
          exact ⟨rfl, v, by simpa using hv, hd⟩
        | no => rfl
        | ow t o => rfl
      · rw [if_neg q]
        have := hj 0 (by simpa using q)
        simp at this
        subst this
        exact ⟨F1 ++ F3, List.Sublist.append_left s3 _, x, σ, F1, F3, rfl, rfl, h2, g3⟩
theorem R.backs {Γ0 Γ : Ga} {G0 H0 : Hp} {F0 : List Addr} {vs : List Nat} (r0 : R K ρ G0 H0 F0 σ Γ0) (s : Same G0 G) (r : R K ρ G H F (wipe σ vs) Γ) : ∃ F', (∀ a ∈ F', a ∈ F) ∧ R K ρ G H F' σ (DL.backs vs 0 Γ0 Γ) := by
  obtain ⟨F', s', g'⟩ := SlotRs.merge (vs := vs) (Γ0 := Γ0) (σ := σ) (k := 0) r.sl (fun j d e => by
    obtain ⟨v, hv, hd⟩ := r0.fz e
    exact ⟨v, hv, Den.mono s _ _ hd⟩) (fun j q => by
    rw [wipe_get, if_neg]
    intro z
    rw [Nat.zero_add] at q
    have : vs.contains j = true := List.contains_iff_mem.mpr z.1
    rw [q] at this; cases this) (by rw [wipe_length]) (by
    have := r.len
    have := r0.len
    rw [wipe_length] at *
    omega)
  exact ⟨F', fun a z => s'.subset z, r.sub, g', s'.nodup r.nd, fun a z => r.gn a (s'.subset z)⟩
/-- a heap in which one foreign place changes -/
theorem R.other {Γ : Ga} {p : Addr} {o : HO} (r : R K ρ G H F σ Γ) (hg : G p = none) (hf : p ∉ F) : R K ρ G (upd H p o) F σ Γ where
  sub := fun b u e => by
    have : b ≠ p := fun z => by rw [z, hg] at e; cases e
    rw [upd_ne this]; exact r.sub b u e
  sl := r.sl.frame (Same.refl _) fun x hx => upd_ne fun z => hf (z ▸ hx)
  nd := r.nd
  gn := r.gn
/-- a step, seen from ahead of a foreign place's making -/
theorem Step.other {G0 H0 : Hp} {F0 : List Addr} {p : Addr} {o : HO} (s : Step m G0 H0 F0 G H F) (h0 : H0 p = none) (hs : Same G H) (hg : G p = none) : Step m G0 H0 F0 G (upd H p o) F := by
  have k : ∀ b, H0 b ≠ none → b ≠ p := fun b n z => n (z ▸ h0)
  cases m with
  | true =>
    exact ⟨s.g, fun b n hb => ⟨(upd_ne (k b n)).trans (Fr.h s b n hb).1, (Fr.h s b n hb).2⟩, Fr.f s, fun b n => by rw [upd_ne (k b n)]; exact Fr.d s b n⟩
  | false =>
    refine ⟨⟨s.1.g, fun b n => ⟨(upd_ne (k b n)).trans (s.1.h b n).1, (s.1.h b n).2⟩, fun b u e => ?_⟩, s.2⟩
    have : b ≠ p := fun z => by rw [z, hg] at e; cases e
    rw [upd_ne this]; exact hs b u e
/-- a foreign place through a step -/
theorem Step.foreign {G1 H1 : Hp} {F1 : List Addr} (s : Step m G H F G1 H1 F1) {p : Addr} (hp : H p ≠ none) (hf : p ∉ F) : H1 p = H p ∧ G1 p = G p ∧ p ∉ F1 := by
  have f := s.fr
  obtain ⟨e1, e2⟩ := f.h p hp hf
  exact ⟨e1, e2, fun z => (f.f p z).elim hf hp⟩
abbrev W0 : WX := fun _ _ _ _ => False
theorem Aft.ok0 {α : Type} {a : α} {Γ : Ga} {P : α → Ga → Hp → Hp → List Addr → Prop} (h : ∀ G' H' F', Step m G H F G' H' F' → R K ρ G' H' F' σ Γ → P a Γ G' H' F') : Aft K m W ρ G H F σ (.ok a Γ) P := h
/-- THE CORE: the list at D is filled -/
theorem lc_run {src_ds : List D} {J : It} {g : DG} {ts : List Nat} {tt : DT} {te : DE} {vs : List Nat} {Γ1 Γe : Ga} {G1 H1 : Hp} {F1 : List Addr} {ys : List D} {Qf : Hp → Prop} {p : Addr} {σ : L2.St}
    (hJ : Yields K G1 J src_ds) (hts : ∀ t ∈ ts, t ∈ vs) (r1 : R K ρ G1 H1 F1 σ Γ1) (hz : sizeOk src_ds.length = true) (e : lcL g tt te vs src_ds (nos vs Γ1) = .ok ys Γe) (hp : H1 p = none)
    (hQ : ∀ G' H' F' zs, Step m G1 H1 F1 G' H' F' → R K ρ G' H' F' (wipe σ vs) Γe → H' p = some (.lst zs) → G' p = none → p ∉ F' → Dens K G' ys zs → Qf H') :
    ∃ Wv : Nat → Nat → Hp → Prop, (∃ n, Wv 0 n (upd H1 p (.lst []))) ∧ ∀ i n H, Wv i n H →
      (J.stop i H ∧ Qf H) ∨ (J.go i H ∧ ∃ Nx : Hp → Prop, (∀ H', Nx H' → ∃ n', n' < n ∧ Wv (i + 1) n' H') ∧ ∀ x H', J.yld i H x H' → LG K ts g x (wipe σ vs) H' fun σ2 H2 => wipe σ2 vs = wipe σ vs ∧ LT K m W0 tt σ2 H2 fun b H3 =>
        if b = true then LE K m W0 te σ2 H3 fun y H4 => ∃ acc, H4 p = some (.lst acc) ∧ acc.length < sizeLine ∧ Nx (upd H4 p (.lst (acc ++ [y]))) else Nx H3) := by
  obtain ⟨F0, h0, r0⟩ := r1.nos vs
  have hp1 : p ∉ F1 := fun z => r1.sl.dom p z hp
  have gp1 : G1 p = none := r1.sub.free hp
  let St : Nat → Hp → Prop := fun i H => ∃ G F Γ zs ds rest, Step m G1 H1 F1 G H F ∧ R K ρ G H F (wipe σ vs) Γ ∧ H p = some (.lst zs) ∧ G p = none ∧ p ∉ F ∧ Dens K G ds zs ∧ ds.length ≤ i ∧ lcL g tt te vs (src_ds.drop i) Γ = .ok rest Γe ∧ ds ++ rest = ys
  refine ⟨fun i n H => n = src_ds.length - i ∧ i ≤ src_ds.length ∧ St i H, ⟨src_ds.length, by omega, by omega, G1, F0, _, [], [], ys, ?_, r0.other gp1 (fun z => hp1 (h0 p z)), upd_same, gp1, fun z => hp1 (h0 p z), by simp [Dens], Nat.zero_le _, by rw [List.drop_zero]; exact e, rfl⟩, ?_⟩
  · have st : Step m G1 H1 F1 G1 H1 F0 := Gr.stepS (Gr.refl r1.sub) h0
    exact st.other hp r1.sub gp1
  rintro i n H ⟨rfl, hi, G, F, Γ, zs, ds, rest, st, r, eH, eG, pF, hd, hlen, el, ey⟩
  by_cases hlt : i < src_ds.length
  · obtain ⟨d, ed⟩ : ∃ d, src_ds[i]? = some d := ⟨src_ds[i], List.getElem?_eq_getElem hlt⟩
    have edr : src_ds.drop i = d :: src_ds.drop (i + 1) := by
      rw [List.drop_eq_getElem_cons hlt]
      have := List.getElem?_eq_getElem hlt
      rw [ed] at this
      rw [Option.some.inj this]
    obtain ⟨go, yl⟩ := (hJ i G H st.g r.sub).1 d ed
    refine .inr ⟨go, St (i + 1), fun H' q => ⟨src_ds.length - (i + 1), by omega, rfl, hlt, q⟩, fun x H' hy => ?_⟩
    obtain ⟨G2, gr, hx⟩ := yl x H' hy
    have s2 : Step m G H F G2 H' F := gr.step
    have pH : H p ≠ none := by rw [eH]; exact fun q => nomatch q
    obtain ⟨k1, k2, k3⟩ := s2.foreign pH pF
    rw [edr] at el
    simp only [lcL] at el
    refine ⟨ρ, G2, F, Γ, d, r.gr gr, hx, ?_⟩
    cases eg : g d Γ with
    | none => rw [eg] at el; cases el
    | some Γ3 =>
      rw [eg] at el
      dsimp only at el
      intro σ3 F3 off hF3 r3
      have ew : wipe σ3 vs = wipe σ vs := wipe_off off hts
      refine ⟨ew, ρ, G2, F3, Γ3, r3, ?_⟩
      have s3 : Step m G H F G2 H' F3 := gr.stepS hF3
      cases et : tt Γ3 with
      | bad => rw [et] at el; cases el
      | ex _ _ => rw [et] at el; cases el
      | ok b Γ4 =>
        rw [et] at el
        dsimp only at el
        intro G4 H4 F4 s4 r4
        have s34 := s3.trans s4
        obtain ⟨k4, k5, k6⟩ := s34.foreign pH pF
        cases b with
        | false =>
          simp only [Bool.false_eq_true, if_false] at el ⊢
          obtain ⟨F5, h5, r5⟩ := r4.nos vs
          rw [ew] at r5
          have s5 : Step m G H F G4 H4 F5 := s34.trans (Gr.stepS (Gr.refl r4.sub) h5)
          exact ⟨G4, F5, _, zs, ds, rest, st.trans s5, r5, by rw [k4]; exact eH, by rw [k5]; exact eG, fun z => k6 (h5 p z), Dens.mono s5.g _ _ hd, by omega, el, ey⟩
        | true =>
          simp only [if_true] at el ⊢
          cases ee : te Γ4 with
          | bad => rw [ee] at el; cases el
          | ex _ _ => rw [ee] at el; cases el
          | ok y Γ5 =>
            rw [ee] at el
            dsimp only at el
            refine ⟨ρ, G4, F4, Γ4, r4, ?_⟩
            rw [ee]
            intro G5 H5 F5 s5 r5 v hv
            have s35 := s34.trans s5
            obtain ⟨k7, k8, k9⟩ := s35.foreign pH pF
            refine ⟨zs, by rw [k7]; exact eH, by rw [hd.length]; exact Nat.lt_of_le_of_lt hlen (Nat.lt_of_lt_of_le hlt (sizeOk_le hz)), ?_⟩
            obtain ⟨F6, h6, r6⟩ := r5.nos vs
            rw [ew] at r6
            cases er : lcL g tt te vs (src_ds.drop (i + 1)) (nos vs Γ5) with
            | bad => rw [er] at el; cases el
            | ex _ _ => rw [er] at el; cases el
            | ok ws Γ6 =>
              rw [er] at el
              cases el
              have s6 : Step m G H F G5 H5 F6 := s35.trans (Gr.stepS (Gr.refl r5.sub) h6)
              have g8 : G5 p = none := by rw [k8]; exact eG
              have pF6 : p ∉ F6 := fun z => k9 (h6 p z)
              exact ⟨G5, F6, _, zs ++ [v], ds ++ [y], ws, (st.trans s6).other hp r5.sub g8, r6.other g8 pF6, upd_same, g8, pF6, (Dens.mono s6.g _ _ hd).append ⟨v, [], rfl, hv, by simp [Dens]⟩, by simp; omega, er, by rw [List.append_assoc]; exact ey⟩
  · have ei : i = src_ds.length := by omega
    rw [List.drop_of_length_le (by omega)] at el
    simp only [lcL, Res.ok.injEq] at el
    obtain ⟨rfl, rfl⟩ := el
    rw [List.append_nil] at ey
    subst ey
    exact .inl ⟨(hJ i G H st.g r.sub).2 (by omega), hQ G H F zs st r eH eG pF hd⟩
/-- [elt for target in iter if ..], frozen -/
def dLc (src : DI) (g : DG) (tt : DT) (te : DE) (vs : List Nat) : DE := fun Γ => (lcG src g tt te vs Γ).bind fun ys Γ => .ok (.lst ys) Γ
def dtYes : DT := fun Γ => .ok true Γ
def STs (X : Cx) (m : Bool) (es : List Expr) (δ : DT) : Prop := PTs X es (LT X.K m W0 δ)
theorem _root_.L2.PTs.imp {X : Cx} {e : List Expr} {t t' : TT} (h : PTs X e t) (i : ∀ σ H Q, t' σ H Q → t σ H Q) : PTs X e t' := ⟨fun pins s σ H Q I q => h.run pins s σ H Q I (i σ H Q q)⟩
theorem sts_nil : STs X m [] dtYes := pts_nil.imp fun σ H Q ⟨ρ, G, F, Γ, r, h⟩ => h G H F (Step.refl r.sub) r
theorem sts_one {c : Expr} {δ : DT} (h : ST X m W0 c δ) : STs X m [c] δ := pts_one h
/-- a block's target, tests and element, in every block that may come -/
structure Blk (X : Cx) (m : Bool) (scope : Scope) (tg elt : Expr) (ifs : List Expr) (ts : List Nat) (g : DG) (tt : DT) (te : DE) : Prop where
  hg : ∀ (s : Shared) (H : Hp) (C : Addr) (cl : List (Str × Addr)) (fp : List Addr), SG (X.blk s H scope (compEnvC scope cl C X.env) fp) tg ts g
  ht : ∀ (s : Shared) (H : Hp) (C : Addr) (cl : List (Str × Addr)) (fp : List Addr), STs (X.blk s H scope (compEnvC scope cl C X.env) fp) m ifs tt
  he : ∀ (s : Shared) (H : Hp) (C : Addr) (cl : List (Str × Addr)) (fp : List Addr), SD (X.blk s H scope (compEnvC scope cl C X.env) fp) m W0 elt te
theorem lc_read {src : DI} {g : DG} {ts : List Nat} {tt : DT} {te : DE} {vs : List Nat} {σ : L2.St} {H : Hp} {Q : VK} {Γ : Ga} {G : Hp} {F : List Addr} (hts : ∀ t ∈ ts, t ∈ vs) (r : R K ρ G H F σ Γ)
    (h : Aft K m W ρ G H F σ (src Γ) fun ds Γ1 G1 H1 F1 => R K ρ G1 H1 F1 σ Γ1 ∧ ∃ ys Γe, sizeOk ds.length = true ∧ lcL g tt te vs ds (nos vs Γ1) = .ok ys Γe ∧
      ∀ p, H1 p = none → ∀ G' H' F' zs, Step m G1 H1 F1 G' H' F' → R K ρ G' H' F' (wipe σ vs) Γe → H' p = some (.lst zs) → G' p = none → p ∉ F' → Dens K G' ys zs → Q (.ref p) H') :
    tLc (LI K m W src) (LG K ts g) (LT K m W0 tt) (LE K m W0 te) vs σ H Q := by
  refine ⟨ρ, G, F, Γ, r, h.mono fun ds Γ1 G1 H1 F1 ⟨r1, ys, Γe, hz, el, k⟩ J hJ p hp => ?_⟩
  exact lc_run hJ hts r1 hz el hp (Qf := fun H => Q (.ref p) H) (k p hp)
theorem lc_step {p : Addr} {G1 H1 G' H' : Hp} {F1 F' : List Addr} {zs : List V} (hp : H1 p = none) (s : Step m G1 H1 F1 G' H' F') (e : H' p = some (.lst zs)) (hg : G' p = none) (hs : Same G' H') : Step m G1 H1 F1 (upd G' p (.lst zs)) H' F' := by
  have k : ∀ b, H1 b ≠ none → b ≠ p := fun b n z => n (z ▸ hp)
  have sm : Same G' (upd G' p (.lst zs)) := fun b u q => by
    have : b ≠ p := fun z => by rw [z, hg] at q; cases q
    rw [upd_ne this]; exact q
  cases m with
  | true => exact ⟨s.g.trans sm, fun b n hb => ⟨(Fr.h s b n hb).1, (upd_ne (k b n)).trans (Fr.h s b n hb).2⟩, Fr.f s, Fr.d s⟩
  | false =>
    refine ⟨⟨s.1.g.trans sm, fun b n => ⟨(s.1.h b n).1, (upd_ne (k b n)).trans (s.1.h b n).2⟩, fun b u q => ?_⟩, s.2⟩
    by_cases z : b = p
    · subst z; rw [upd_same] at q; cases q; exact e
    · rw [upd_ne z] at q; exact hs b u q
theorem R.frozen {Γ : Ga} {p : Addr} {zs : List V} (r : R K ρ G H F σ Γ) (e : H p = some (.lst zs)) (hg : G p = none) (hf : p ∉ F) : R K ρ (upd G p (.lst zs)) H F σ Γ where
  sub := fun b u q => by
    by_cases z : b = p
    · subst z; rw [upd_same] at q; cases q; exact e
    · rw [upd_ne z] at q; exact r.sub b u q
  sl := r.sl.frame (fun b u q => by
    have : b ≠ p := fun z => by rw [z, hg] at q; cases q
    rw [upd_ne this]; exact q) fun _ _ => rfl
  nd := r.nd
  gn := fun a ha => by
    have : a ≠ p := fun z => hf (z ▸ ha)
    rw [upd_ne this]; exact r.gn a ha
theorem dLc_read {src : DI} {g : DG} {ts : List Nat} {tt : DT} {te : DE} {vs : List Nat} {σ : L2.St} {H : Hp} {Q : VK} (hts : ∀ t ∈ ts, t ∈ vs) (h : LE K m W (dLc src g tt te vs) σ H Q) : tLc (LI K m W src) (LG K ts g) (LT K m W0 tt) (LE K m W0 te) vs σ H Q := by
  obtain ⟨ρ, G, F, Γ, r, h⟩ := h
  unfold dLc lcG at h
  rw [Res.bind_assoc] at h
  refine lc_read hts r ((Aft.bindG h).mono fun ds Γ1 G1 H1 F1 ⟨⟨r1, g1⟩, h1⟩ => ⟨r1, ?_⟩)
  by_cases hz : sizeOk ds.length = true
  · rw [if_pos hz] at h1
    cases el : lcL g tt te vs ds (nos vs Γ1) with
    | bad => rw [el] at h1; exact False.elim h1
    | ex _ _ => rw [el] at h1; exact False.elim h1
    | ok ys Γe =>
      rw [el] at h1
      refine ⟨ys, Γe, hz, rfl, fun p hp G' H' F' zs st r' e hg hf hd => ?_⟩
      obtain ⟨F2, h2, r2⟩ := r1.backs st.g r'
      have st2 : Step m G1 H1 F1 G' H' F2 := st.trans (Gr.stepS (Gr.refl r'.sub) h2)
      have sm : Same G' (upd G' p (.lst zs)) := fun b u q => by
        have : b ≠ p := fun z => by rw [z, hg] at q; cases q
        rw [upd_ne this]; exact q
      exact h1 _ H' F2 (lc_step hp st2 e hg r'.sub) (r2.frozen e hg fun z => hf (h2 p z)) (.ref p) ⟨p, zs, rfl, SqL.of upd_same, Dens.mono sm _ _ hd⟩
  · rw [if_neg hz] at h1
    exact False.elim h1
theorem sd_lc {src : DI} {g : DG} {ts : List Nat} {tt : DT} {te : DE} {own : List (Str × Nat)} {elt tg iter : Expr} {ifs : List Expr} {scope : Scope} {pos : Pos} (hc : X.calm = true) (hN : X.N.Nodup) (hi : SI X m W tg iter src) (ok : BlkOk X.N X.env.scope scope own)
    (hts : ∀ t ∈ ts, t ∈ own.map (·.2)) (B : Blk X m scope tg elt ifs ts g tt te) (hs : ∀ x, foldedSetIterable iter X.env x = pure x := by intro _; rfl) {vs : List Nat} (hv : own.map (·.2) = vs := by rfl) :
    SD X m W (.ListComp elt [⟨tg, iter, ifs, 0⟩] scope pos) (dLc src g tt te vs) := by
  subst hv
  exact (pe_lc (g := LG X.K ts g) (tt := LT X.K m W0 tt) (te := LE X.K m W0 te) hc hN hi ok B.hg B.ht B.he hs).imp fun σ H Q h => dLc_read hts h
/-- .. owned -/
def dLcO (src : DI) (g : DG) (tt : DT) (te : DE) (vs : List Nat) : DOw := fun Γ => (lcG src g tt te vs Γ).bind fun ys Γ => .ok (O.lf ys) Γ
theorem dLcO_read {src : DI} {g : DG} {ts : List Nat} {tt : DT} {te : DE} {vs : List Nat} {σ : L2.St} {H : Hp} {Q : VK} (hts : ∀ t ∈ ts, t ∈ vs) (h : LOw K W (dLcO src g tt te vs) σ H Q) : tLc (LI K true W src) (LG K ts g) (LT K true W0 tt) (LE K true W0 te) vs σ H Q := by
  obtain ⟨ρ, G, F, Γ, r, h⟩ := h
  unfold dLcO lcG at h
  rw [Res.bind_assoc] at h
  refine lc_read hts r ((AftO.bind h).mono fun ds Γ1 G1 H1 F1 ⟨r1, h1⟩ => ⟨r1, ?_⟩)
  by_cases hz : sizeOk ds.length = true
  · rw [if_pos hz] at h1
    cases el : lcL g tt te vs ds (nos vs Γ1) with
    | bad => rw [el] at h1; exact False.elim h1
    | ex _ _ => rw [el] at h1; exact False.elim h1
    | ok ys Γe =>
      rw [el] at h1
      refine ⟨ys, Γe, hz, rfl, fun p hp G' H' F' zs st r' e hg hf hd => ?_⟩
      obtain ⟨F2, h2, r2⟩ := r1.backs st.g r'
      have st2 : Step true G1 H1 F1 G' H' F2 := st.trans (Gr.stepS (Gr.refl r'.sub) h2)
      have f2 : Fr G1 H1 F1 G' H' F2 := st2
      refine h1 (.ref p) G' H' F2 [p] ⟨f2.g, f2.h, fun a z => ?_, f2.d⟩ r2 (ow_list hd e) ?_ fun a z => ?_
      · rcases List.mem_append.mp z with q | q
        · rw [List.mem_singleton.mp q]; exact .inr hp
        · exact f2.f a q
      · exact List.nodup_cons.mpr ⟨fun z => hf (h2 p z), r2.nd⟩
      · rw [List.mem_singleton.mp z]; exact hg
  · rw [if_neg hz] at h1
    exact False.elim h1
theorem so_lc {src : DI} {g : DG} {ts : List Nat} {tt : DT} {te : DE} {own : List (Str × Nat)} {elt tg iter : Expr} {ifs : List Expr} {scope : Scope} {pos : Pos} (hc : X.calm = true) (hN : X.N.Nodup) (hi : SI X true W tg iter src) (ok : BlkOk X.N X.env.scope scope own)
    (hts : ∀ t ∈ ts, t ∈ own.map (·.2)) (B : Blk X true scope tg elt ifs ts g tt te) (hs : ∀ x, foldedSetIterable iter X.env x = pure x := by intro _; rfl) {vs : List Nat} (hv : own.map (·.2) = vs := by rfl) :
    SOw X W (.ListComp elt [⟨tg, iter, ifs, 0⟩] scope pos) (dLcO src g tt te vs) := by
  subst hv
  exact (pe_lc (g := LG X.K ts g) (tt := LT X.K true W0 tt) (te := LE X.K true W0 te) hc hN hi ok B.hg B.ht B.he hs).imp fun σ H Q h => dLcO_read hts h
/-- name = [..] on one line, frozen; owned -/
theorem ss_setLc {i : Nat} {y : Str} {py : Pos} {src : DI} {g : DG} {ts : List Nat} {tt : DT} {te : DE} {own : List (Str × Nat)} {elt tg iter : Expr} {ifs : List Expr} {scope : Scope} {pos spos : Pos} (hc : X.calm = true) (hN : X.N.Nodup) (hy : X.N[i]? = some y) (hyl : X.env.scope.names.lookup y = some .local)
    (hsw : swapsWith (.ListComp elt [⟨tg, iter, ifs, 0⟩] scope pos) (some (.Name y py)) spos.line X.env = pure true) (hi : SI X true W tg iter src) (ok : BlkOk X.N X.env.scope scope own)
    (hts : ∀ t ∈ ts, t ∈ own.map (·.2)) (B : Blk X true scope tg elt ifs ts g tt te) (hs : ∀ x, foldedSetIterable iter X.env x = pure x := by intro _; rfl) {vs : List Nat} (hv : own.map (·.2) = vs := by rfl) :
    SS X W (.Assign [.Name y py] (.ListComp elt [⟨tg, iter, ifs, 0⟩] scope pos) spos) (dSet i (dLc src g tt te vs)) := by
  subst hv
  exact (ps_setLc (g := LG X.K ts g) (tt := LT X.K true W0 tt) (te := LE X.K true W0 te) hc hN hy hyl hsw hi ok B.hg B.ht B.he hs).imp fun E σ H ⟨ρ, G, F, Γ, r, h⟩ => by
    refine dLc_read hts (W := W) ⟨ρ, G, F, Γ, r, (AftS.bind h).mono fun d Γ1 G1 H1 F1 ⟨⟨r1, f1⟩, h1⟩ v hd => ?_⟩
    obtain ⟨F2, hF, r2⟩ := r1.set' i hd
    exact AftS.nx r2 (AftS.fr (Fr.sub hF) h1)
theorem ss_setLcO {i : Nat} {y : Str} {py : Pos} {src : DI} {g : DG} {ts : List Nat} {tt : DT} {te : DE} {own : List (Str × Nat)} {elt tg iter : Expr} {ifs : List Expr} {scope : Scope} {pos spos : Pos} (hc : X.calm = true) (hN : X.N.Nodup) (hy : X.N[i]? = some y) (hyl : X.env.scope.names.lookup y = some .local)
    (hsw : swapsWith (.ListComp elt [⟨tg, iter, ifs, 0⟩] scope pos) (some (.Name y py)) spos.line X.env = pure true) (hi : SI X true W tg iter src) (ok : BlkOk X.N X.env.scope scope own)
    (hts : ∀ t ∈ ts, t ∈ own.map (·.2)) (B : Blk X true scope tg elt ifs ts g tt te) (hs : ∀ x, foldedSetIterable iter X.env x = pure x := by intro _; rfl) {vs : List Nat} (hv : own.map (·.2) = vs := by rfl) :
    SS X W (.Assign [.Name y py] (.ListComp elt [⟨tg, iter, ifs, 0⟩] scope pos) spos) (dSetO i (dLcO src g tt te vs)) := by
  subst hv
  exact (ps_setLc (g := LG X.K ts g) (tt := LT X.K true W0 tt) (te := LE X.K true W0 te) hc hN hy hyl hsw hi ok B.hg B.ht B.he hs).imp fun E σ H ⟨ρ, G, F, Γ, r, h⟩ => by
    refine dLcO_read hts (W := W) ⟨ρ, G, F, Γ, r, ?_⟩
    unfold dSetO at h
    cases ea : dLcO src g tt te (own.map (·.2)) Γ with
    | bad => rw [ea] at h; exact h
    | ex x Γ' => rw [ea] at h; exact fun dd G2 H2 F2 b r2 xc => h dd σ G2 H2 F2 b r2 xc
    | ok o Γ' =>
      rw [ea] at h
      intro v G' H' F' Fo fr rr ow nd gn
      obtain ⟨F2, hF2, r2⟩ := rr.put i ow nd gn
      exact AftS.nx r2 (AftS.fr (fr.mono (fun _ z => z) hF2) h)
end
end DL
end
section
set_option Elab.async false
set_option linter.all false
set_option maxRecDepth 100000
/-! DL12: the common operators under one name each; calls by short rules. -/
namespace DL
open PySem L2
section
variable {X : Cx} {K : PySem.W.Frag} {m : Bool} {W : WX}
theorem Vop2.or {r r' : R2} {f g : D → D → Option D} (a : Vop2 K r f) (b : Vop2 K r' g) : Vop2 K (fun x y H Q => r x y H Q ∨ r' x y H Q) (fun x y => (f x y).or (g x y)) := by
  intro G H x y dx dy Q s hx hy h
  dsimp only at h
  cases e : f dx dy with
  | some d => rw [e] at h; exact .inl (a G H x y dx dy Q s hx hy (by rw [e]; exact h))
  | none => rw [e] at h; exact .inr (b G H x y dx dy Q s hx hy h)
theorem Vop2.eqv {r : R2} {f g : D → D → Option D} (a : Vop2 K r f) (e : ∀ x y d, g x y = some d → f x y = some d) : Vop2 K r g := by
  intro G H x y dx dy Q s hx hy h
  cases q : g dx dy with
  | none => rw [q] at h; exact False.elim h
  | some d => exact a G H x y dx dy Q s hx hy (by rw [e _ _ _ q]; rw [q] at h; exact h)

/-! ### + -/
def oCatT : D → D → Option D
  | .tup xs, .tup ys => if !xs.isEmpty && sizeOk (xs.length + ys.length) then some (.tup (xs ++ ys)) else none
  | _, _ => none
theorem v_catT : Vop2 K (rCatT K) oCatT := by
  intro G H x y dx dy Q s hx hy h
  cases dx <;> cases dy <;> first | exact False.elim h | skip
  rename_i xs ys
  replace h : PGo K G H (if !xs.isEmpty && sizeOk (xs.length + ys.length) then some (.tup (xs ++ ys)) else none) Q := h
  split at h
  · rename_i hc
    simp only [Bool.and_eq_true, Bool.not_eq_true'] at hc
    obtain ⟨a, vs, rfl, h2, h3⟩ := hx
    obtain ⟨b, ws, rfl, h4, h5⟩ := hy
    have hne : vs ≠ [] := fun z => by
      subst z
      have := h3.length
      cases xs
      · cases hc.1
      · simp at this
    refine ⟨a, b, vs, ws, rfl, rfl, sqT_mono s h2, sqT_mono s h4, hne, by rw [h3.length, h5.length]; exact sizeOk_le hc.2, fun e => ?_, fun e p hp => ?_⟩
    · subst e
      have e2 : ys = [] := by
        have := h5.length
        cases ys
        · rfl
        · simp at this
      subst e2
      rw [List.append_nil] at h
      exact h.val s ⟨a, vs, rfl, h2, h3⟩
    · have g := Gr.new (o := .tup (vs ++ ws)) s hp
      exact h _ _ _ g ⟨p, _, rfl, SqT.of upd_same, (Dens.mono g.g _ _ h3).append (Dens.mono g.g _ _ h5)⟩
  · exact False.elim h
def oCatS : D → D → Option D
  | .str a, .str b => if sizeOk (a.length + b.length) then some (.str (a ++ b)) else none
  | _, _ => none
theorem v_catS : Vop2 K (fun x y H Q => ∃ i j, x = .str i ∧ y = .str j ∧ i.length + j.length ≤ sizeLine ∧ Q (.str (i ++ j)) H) oCatS := by
  intro G H x y dx dy Q s hx hy h
  cases dx <;> cases dy <;> first | exact False.elim h | skip
  rename_i a b
  replace h : PGo K G H (if sizeOk (a.length + b.length) then some (.str (a ++ b)) else none) Q := h
  split at h
  · rename_i hc
    exact ⟨a, b, hx, hy, sizeOk_le hc, h.val s rfl⟩
  · exact False.elim h
/-- + of numbers, texts, tuples -/
def oPlus : D → D → Option D
  | .int i, .int j => some (.int (i + j))
  | .str a, .str b => oCatS (.str a) (.str b)
  | .tup a, .tup b => oCatT (.tup a) (.tup b)
  | _, _ => none
theorem plus_eq : ∀ x y d, oPlus x y = some d → ((oAdd x y).or ((oCatS x y).or (oCatT x y))) = some d := by
  intro x y d h
  cases x <;> cases y <;> try (exact h)
  case str.str a b =>
    have h : oCatS (.str a) (.str b) = some d := h
    show (none : Option D).or ((oCatS (.str a) (.str b)).or _) = some d
    rw [h]; rfl
  all_goals cases h
theorem op_plus : OpR X (binaryOp .Add) (fun x y H Q => rI0 (fun i j => .int (i + j)) x y H Q ∨ ((∃ i j, x = .str i ∧ y = .str j ∧ i.length + j.length ≤ sizeLine ∧ Q (.str (i ++ j)) H) ∨ rCatT X.K x y H Q)) := op_add.or (op_add_str.or op_catT)
theorem v_plus : Vop2 K (fun x y H Q => rI0 (fun i j => .int (i + j)) x y H Q ∨ ((∃ i j, x = .str i ∧ y = .str j ∧ i.length + j.length ≤ sizeLine ∧ Q (.str (i ++ j)) H) ∨ rCatT K x y H Q)) oPlus := ((v_iI _).or (v_catS.or v_catT)).eqv plus_eq
theorem sd_plus {a b : Expr} {φ ψ : DE} {pos : Pos} (ha : SD X m W a φ) (hb : SD X m W b ψ) : SD X m W (.BinOp a .Add b pos) (d2 oPlus φ ψ) := sd_op op_plus v_plus ha hb

/-! ### ==, != of any data -/
def oEqA (x y : D) : Option D := (oEq x y).or (oEqD x y)
def oNeA (x y : D) : Option D := (oNe x y).or (oNeD x y)
theorem sd_eqA {k : Nat} (hr : Room k X.A) {a b : Expr} {φ ψ : DE} {pos : Pos} (ha : SD X m W a φ) (hb : SD X m W b ψ) : SD X m W (.Compare a [.Eq] [b] pos) (d2 oEqA φ ψ) := sd_cmp (op_eq.or (op_eqD hr.units)) (v_eq.or v_eqD) ha hb (nomark _)
theorem sd_neA {k : Nat} (hr : Room k X.A) {a b : Expr} {φ ψ : DE} {pos : Pos} (ha : SD X m W a φ) (hb : SD X m W b ψ) : SD X m W (.Compare a [.NotEq] [b] pos) (d2 oNeA φ ψ) := sd_cmp (op_ne.or (op_neD hr.units)) (v_ne.or v_neD) ha hb (nomark _)

/-! ### built-ins by short rules -/
section
variable {e e2 : Expr} {a : DE} {δ : DA} {p pos : Pos}
theorem sd_len (hg : Gl X "len") (hm : X.mg "len" = none) (ha : SA X m W [e] δ) (he : starEach [e] X.env = (false, eval e X.env) :: starEach [] X.env := by rfl) (hpl : (backTo pos (starEach [] X.env)).any (·.1) = false := by rfl) : SD X m W (.Call (.Name "len" p) [e] [] pos) (dA (one oLen) δ) := sd_callB call_lenA v_len hg hm (by decide +kernel) ha (by decide) (by decide) he hpl
theorem sd_sum (hc : X.calm = true) (hg : Gl X "sum") (hm : X.mg "sum" = none) (ha : SA X m W [e] δ) (he : starEach [e] X.env = (false, eval e X.env) :: starEach [] X.env := by rfl) (hpl : (backTo pos (starEach [] X.env)).any (·.1) = false := by rfl) : SD X m W (.Call (.Name "sum" p) [e] [] pos) (dA (one oSum) δ) := sd_callB (call_sumA hc) v_sum hg hm (by decide +kernel) ha (by decide) (by decide) he hpl
theorem sd_max1 (hc : X.calm = true) (hg : Gl X "max") (hm : X.mg "max" = none) (ha : SA X m W [e] δ) (he : starEach [e] X.env = (false, eval e X.env) :: starEach [] X.env := by rfl) (hpl : (backTo pos (starEach [] X.env)).any (·.1) = false := by rfl) : SD X m W (.Call (.Name "max" p) [e] [] pos) (dA (one oMax) δ) := sd_callB (cr_max hc) v_max hg hm (by decide +kernel) ha (by decide) (by decide) he hpl
theorem sd_min1 (hc : X.calm = true) (hg : Gl X "min") (hm : X.mg "min" = none) (ha : SA X m W [e] δ) (he : starEach [e] X.env = (false, eval e X.env) :: starEach [] X.env := by rfl) (hpl : (backTo pos (starEach [] X.env)).any (·.1) = false := by rfl) : SD X m W (.Call (.Name "min" p) [e] [] pos) (dA (one oMin) δ) := sd_callB (cr_min hc) v_min hg hm (by decide +kernel) ha (by decide) (by decide) he hpl
abbrev oMax2 := two (iI fun i j => if j > i then j else i)
abbrev oMin2 := two (iI fun i j => if j < i then j else i)
theorem sd_max2 (hc : X.calm = true) (hg : Gl X "max") (hm : X.mg "max" = none) (ha : SA X m W [e, e2] δ) (he : starEach [e, e2] X.env = (false, eval e X.env) :: starEach [e2] X.env := by rfl) (hpl : (backTo pos (starEach [e2] X.env)).any (·.1) = false := by rfl) : SD X m W (.Call (.Name "max" p) [e, e2] [] pos) (dA oMax2 δ) := sd_callB (call_max2 hc) v_max2 hg hm (by decide +kernel) ha (by decide) (by decide) he hpl
theorem sd_min2 (hc : X.calm = true) (hg : Gl X "min") (hm : X.mg "min" = none) (ha : SA X m W [e, e2] δ) (he : starEach [e, e2] X.env = (false, eval e X.env) :: starEach [e2] X.env := by rfl) (hpl : (backTo pos (starEach [e2] X.env)).any (·.1) = false := by rfl) : SD X m W (.Call (.Name "min" p) [e, e2] [] pos) (dA oMin2 δ) := sd_callB (call_min2 hc) v_min2 hg hm (by decide +kernel) ha (by decide) (by decide) he hpl
theorem sd_abs (hg : Gl X "abs") (hm : X.mg "abs" = none) (ha : SA X m W [e] δ) (he : starEach [e] X.env = (false, eval e X.env) :: starEach [] X.env := by rfl) (hpl : (backTo pos (starEach [] X.env)).any (·.1) = false := by rfl) : SD X m W (.Call (.Name "abs" p) [e] [] pos) (dA (one oAbs) δ) := sd_callB call_abs v_abs hg hm (by decide +kernel) ha (by decide) (by decide) he hpl
theorem sd_intOf (hg : Gl X "int") (hm : X.mg "int" = none) (ha : SA X m W [e] δ) (he : starEach [e] X.env = (false, eval e X.env) :: starEach [] X.env := by rfl) (hpl : (backTo pos (starEach [] X.env)).any (·.1) = false := by rfl) : SD X m W (.Call (.Name "int" p) [e] [] pos) (dA (one oInt) δ) := sd_callTy call_int1 v_int hg hm (by decide +kernel) ha (by decide) (by decide) he hpl
theorem sd_tupleOf (hg : Gl X "tuple") (hm : X.mg "tuple" = none) (ha : SA X m W [e] δ) (he : starEach [e] X.env = (false, eval e X.env) :: starEach [] X.env := by rfl) (hpl : (backTo pos (starEach [] X.env)).any (·.1) = false := by rfl) : SD X m W (.Call (.Name "tuple" p) [e] [] pos) (dA (one oTuple) δ) := sd_callTy call_tuple_of v_tuple hg hm (by decide +kernel) ha (by decide) (by decide) he hpl
theorem sd_listOf (hg : Gl X "list") (hm : X.mg "list" = none) (ha : SA X m W [e] δ) (he : starEach [e] X.env = (false, eval e X.env) :: starEach [] X.env := by rfl) (hpl : (backTo pos (starEach [] X.env)).any (·.1) = false := by rfl) : SD X m W (.Call (.Name "list" p) [e] [] pos) (dA (one oList) δ) := sd_callTy call_list_of v_list hg hm (by decide +kernel) ha (by decide) (by decide) he hpl
theorem so_listOf (hg : Gl X "list") (hm : X.mg "list" = none) (ha : SA X true W [e] δ) (he : starEach [e] X.env = (false, eval e X.env) :: starEach [] X.env := by rfl) (hpl : (backTo pos (starEach [] X.env)).any (·.1) = false := by rfl) : SOw X W (.Call (.Name "list" p) [e] [] pos) (dO foList δ) := so_callTy call_list_of vo_list hg hm (by decide +kernel) ha (by decide) (by decide) he hpl
theorem boot_isi : bootBuiltins "isinstance" = some (.builtin "isinstance") := by decide +kernel
end

/-! ### calls of defs -/
/-- a def's denotation as a function of data -/
def toP (n : Nat) (f : DOw) : List D → Option D := fun ds => if ds.length = n then (match f (ds.map Sl.fz) with
  | .ok (.fz d) _ => some d
  | _ => none) else none
theorem toP_len {n : Nat} {f : DOw} : ∀ ds d, toP n f ds = some d → ds.length = n := fun ds d h => by
  unfold toP at h
  split at h
  · assumption
  · cases h
theorem outs_fz : ∀ {ds : List D} {Γ as' : Ga} {j : Nat}, outs j (ds.map Sl.fz) Γ = some as' → as' = ds.map Sl.fz
  | [], Γ, as', j, h => by simp [outs] at h; subst h; rfl
  | d :: ds, [], as', j, h => by simp [outs] at h
  | d :: ds, s :: Γ, as', j, h => by
    simp only [List.map_cons, outs, Option.map_eq_some_iff] at h
    obtain ⟨as2, h, rfl⟩ := h
    rw [outs_fz h]; rfl
theorem le_toP {n k : Nat} {δ : DS} : Le (pureF (toP n (dFn k δ))) (dFn k δ) := le_pure fun ds d h => by
  unfold toP at h
  split at h
  · cases e : dFn k δ (ds.map Sl.fz) with
    | bad => rw [e] at h; cases h
    | ex x Γ => rw [e] at h; cases h
    | ok o Γ =>
      rw [e] at h
      have eo : o = .fz d := by
        cases o with
        | fz d' => cases h; rfl
        | ol _ => cases h
        | oK _ _ => cases h
        | oT _ _ => cases h
        | oi _ _ _ => cases h
      subst eo
      have : Γ = ds.map Sl.fz := by
        unfold dFn dEnd at e
        split at e
        · split at e
          · rename_i eo; cases e; exact outs_fz eo
          · cases e
        · split at e
          · rename_i eo; cases e; exact outs_fz eo
          · cases e
        · cases e
        · split at e <;> cases e
        · cases e
      rw [this]
  · cases h
/-- f(..), f a def that raises nothing, owned things handed -/
theorem so_callN {CX : CXT} {k n : Nat} {f : Addr} {fd : FuncData} {ps : List Str} {x : Str} {p pos : Pos} {e : Expr} {es : List Expr} {δ : DAr} {g : DOw} (Fn : FnOk X.prog X.w X.K X.mg X.base CX k f fd ps (spN X.K n g)) (hr : Room k X.A) (hg : Gl X x) (hm : X.mg x = some (.ref f)) (hk : PySem.W.keepIn X.K (.ref f) = true) (hb : Binds X.K fd ps []) (hx : ∀ σ, PassesAt CX X σ (WE W σ))
    (hw : ∀ Γ as Γ', δ Γ = .ok as Γ' → as.length = n) (ha : SAr X W (e :: es) δ) (hdb : (x == ("__debug__" : Str)) = false := by decide) (he : starEach (e :: es) X.env = (false, eval e X.env) :: starEach es X.env := by rfl) (hpl : (backTo pos (starEach es X.env)).any (·.1) = false := by rfl) :
    SOw X W (.Call (.Name x p) (e :: es) [] pos) (dCall (noEx g) δ) := (pe_callS Fn hr hg hm hk hb hx ha hdb he hpl).imp fun σ H Q ⟨ρ, G, F, Γ, r, h⟩ => by
  refine ⟨ρ, G, F, Γ, r, ?_⟩
  cases ed : δ Γ with
  | bad => unfold dCall at h; rw [ed] at h; exact h
  | ex x Γ' => unfold dCall at h; rw [ed] at h; exact h
  | ok as Γ1 =>
    have h2 := AftO.bind (K := X.K) (W := W) (ρ := ρ) (G := G) (H := H) (F := F) (σ := σ) (r := δ Γ) (Q := Q) h
    rw [ed] at h2
    intro G1 H1 F1 st r1 vs hvs
    have hl : vs.length = n := by
      rw [← hw _ _ _ ed]
      clear h h2 ed
      revert vs
      induction as with
      | nil => intro vs hvs; simp only [Args] at hvs; subst hvs; rfl
      | cons a as ih =>
        intro vs hvs
        cases a <;> (obtain ⟨v, vr, rfl, _, hr⟩ := hvs; simp [ih vr hr])
    exact spF_noEx (call_sides (E0 := WE W σ) r1 hvs hl (fun c d H' z => z) (h2 G1 H1 F1 st r1).2)
def ALen (n : Nat) (δ : DAr) : Prop := ∀ Γ as Γ', δ Γ = .ok as Γ' → as.length = n
theorem al_nil : ALen 0 arNil := fun Γ as Γ' h => by cases h; rfl
theorem al_cons {n : Nat} {a : DE} {as : DAr} (h : ALen n as) : ALen (n + 1) (arCons a as) := fun Γ xs Γ' e => by
  unfold arCons at e
  cases e1 : a Γ with
  | bad => rw [e1] at e; cases e
  | ex _ _ => rw [e1] at e; cases e
  | ok d Γ1 =>
    rw [e1] at e
    simp only [Res.bind_ok] at e
    cases e2 : as Γ1 with
    | bad => rw [e2] at e; cases e
    | ex _ _ => rw [e2] at e; cases e
    | ok ds Γ2 => rw [e2] at e; cases e; simp [h _ _ _ e2]
theorem al_slot {n i : Nat} {as : DAr} (h : ALen n as) : ALen (n + 1) (arSlot i as) := fun Γ xs Γ' e => by
  unfold arSlot at e
  split at e
  · cases e2 : as Γ with
    | bad => rw [e2] at e; cases e
    | ex _ _ => rw [e2] at e; cases e
    | ok ds Γ2 => rw [e2] at e; cases e; simp [h _ _ _ e2]
  · cases e

/-! ### <, <=, >, >= of numbers and texts -/
def oLtS : D → D → Option D
  | .str a, .str b => some (.bl (decide (a.cps.toList < b.cps.toList)))
  | _, _ => none
def oLeS : D → D → Option D
  | .str a, .str b => some (.bl (!decide (b.cps.toList < a.cps.toList)))
  | _, _ => none
def oGtS : D → D → Option D
  | .str a, .str b => some (.bl (decide (b.cps.toList < a.cps.toList)))
  | _, _ => none
def oGeS : D → D → Option D
  | .str a, .str b => some (.bl (!decide (a.cps.toList < b.cps.toList)))
  | _, _ => none
theorem v_ltS : Vop2 K (fun x y H Q => ∃ i j, x = .str i ∧ y = .str j ∧ Q (.bl (decide (i.cps.toList < j.cps.toList))) H) oLtS := by
  intro G H x y dx dy Q s hx hy h
  cases dx <;> cases dy <;> first | exact False.elim h | skip
  exact ⟨_, _, hx, hy, PGo.bl s h⟩
theorem v_leS : Vop2 K (fun x y H Q => ∃ i j, x = .str i ∧ y = .str j ∧ Q (.bl (!decide (j.cps.toList < i.cps.toList))) H) oLeS := by
  intro G H x y dx dy Q s hx hy h
  cases dx <;> cases dy <;> first | exact False.elim h | skip
  exact ⟨_, _, hx, hy, PGo.bl s h⟩
theorem v_gtS : Vop2 K (fun x y H Q => ∃ i j, x = .str i ∧ y = .str j ∧ Q (.bl (decide (j.cps.toList < i.cps.toList))) H) oGtS := by
  intro G H x y dx dy Q s hx hy h
  cases dx <;> cases dy <;> first | exact False.elim h | skip
  exact ⟨_, _, hx, hy, PGo.bl s h⟩
theorem v_geS : Vop2 K (fun x y H Q => ∃ i j, x = .str i ∧ y = .str j ∧ Q (.bl (!decide (i.cps.toList < j.cps.toList))) H) oGeS := by
  intro G H x y dx dy Q s hx hy h
  cases dx <;> cases dy <;> first | exact False.elim h | skip
  exact ⟨_, _, hx, hy, PGo.bl s h⟩
def oLtA (x y : D) : Option D := (oLt x y).or (oLtS x y)
def oLeA (x y : D) : Option D := (oLe x y).or (oLeS x y)
def oGtA (x y : D) : Option D := (oGt x y).or (oGtS x y)
def oGeA (x y : D) : Option D := (oGe x y).or (oGeS x y)
section
variable {a b : Expr} {φ ψ : DE} {pos : Pos}
theorem sd_ltA (ha : SD X m W a φ) (hb : SD X m W b ψ) : SD X m W (.Compare a [.Lt] [b] pos) (d2 oLtA φ ψ) := sd_cmp (op_lt.or op_lt_str) ((v_iB _).or v_ltS) ha hb (nomark _)
theorem sd_leA (ha : SD X m W a φ) (hb : SD X m W b ψ) : SD X m W (.Compare a [.LtE] [b] pos) (d2 oLeA φ ψ) := sd_cmp (op_le.or op_le_str) ((v_iB _).or v_leS) ha hb (nomark _)
theorem sd_gtA (ha : SD X m W a φ) (hb : SD X m W b ψ) : SD X m W (.Compare a [.Gt] [b] pos) (d2 oGtA φ ψ) := sd_cmp (op_gt.or op_gt_str) ((v_iB _).or v_gtS) ha hb (nomark _)
theorem sd_geA (ha : SD X m W a φ) (hb : SD X m W b ψ) : SD X m W (.Compare a [.GtE] [b] pos) (d2 oGeA φ ψ) := sd_cmp (op_ge.or op_ge_str) ((v_iB _).or v_geS) ha hb (nomark _)
end

/-! ### the law -/
def spLaw (K : PySem.W.Frag) : Sp := fun vs H Q _ => ∃ (a : Addr) (ns : List Int), vs = [.ref a] ∧ SqL K H a (ns.map V.int) ∧ ns.length ≤ 63 ∧ ∀ H', Q (.bl true) H'
theorem dens_map {G : Hp} : ∀ ns : List Int, Dens K G (ns.map D.int) (ns.map V.int)
  | [] => rfl
  | n :: ns => ⟨.int n, ns.map V.int, rfl, rfl, dens_map ns⟩
theorem law_ok {P : Program} {w : World} {mg : Str → Option Value} {base : Heap} {CX : CXT} {k : Nat} {f : Addr} {fd : FuncData} {ps : List Str} {g : List D → Option D} (truth : ∀ ns : List Int, ns.length ≤ 63 → g [.lst (ns.map D.int)] = some (.bl true))
    (F : FnOk P w K mg base CX k f fd ps (spN K 1 (pureF g))) : FnOk P w K mg base CX k f fd ps (spLaw K) := F.imp fun vs H Q E ⟨a, ns, e, hS, hl, q⟩ => by
  subst e
  have hd : Den K H (.lst (ns.map D.int)) (.ref a) := ⟨a, ns.map V.int, rfl, hS, dens_map ns⟩
  refine ⟨rfl, H, [], [.fz (.lst (ns.map D.int))], ⟨Same.refl H, ⟨some (.ref a), [], [], [], rfl, rfl, ⟨rfl, _, rfl, hd⟩, rfl, rfl⟩, List.nodup_nil, fun a z => nomatch z⟩, ?_⟩
  show AftF K _ H H [] (match allFz [.fz (.lst (ns.map D.int))] with
    | some ds => (match g ds with
      | some d => .ok (.fz d) _
      | none => .bad)
    | none => .bad) Q _
  have e : allFz [.fz (.lst (ns.map D.int))] = some [.lst (ns.map D.int)] := rfl
  rw [e]
  dsimp only
  rw [truth ns hl]
  intro v G' H' F' Fo fr r ow nd gn
  obtain ⟨_, hv⟩ := ow
  cases hv
  exact q H'
/-- no promise at all -/
theorem fn_none {P : Program} {w : World} {mg : Str → Option Value} {base : Heap} {CX : CXT} {k n : Nat} {f : Addr} {fd : FuncData} {ps : List Str} : FnOk P w K mg base CX k f fd ps (spN K n (pureF fun _ => none)) := by
  have no : ∀ vs H Q E, spN K n (pureF fun _ => none) vs H Q E → False := fun vs H Q E ⟨_, G, F, Γ, _, h⟩ => by
    unfold pureF at h
    cases e : allFz Γ with
    | none => rw [e] at h; exact h
    | some ds => rw [e] at h; exact h
  exact ⟨fun vs H Q E h => (no vs H Q E h).elim, fun A outer s H args us vs Q E _ _ _ _ h => (no vs H Q E h).elim⟩

/-! ### comparisons as tests -/
/-- a pure test with a slot lent -/
def dtBor (i : Nat) (a : DT) : DT := fun Γ => match Γ[i]? with
  | some (.ow _ o) => (match o.d with
    | some d => (match a (Γ.set i (.fz d)) with
      | .ok r _ => .ok r Γ
      | _ => .bad)
    | none => .bad)
  | some (.fz _) => (match a Γ with
      | .ok r _ => .ok r Γ
      | _ => .bad)
  | _ => .bad
theorem st_bor (i : Nat) {e : Expr} {a : DT} (h : ST X false W e a) : ST X m W e (dtBor i a) := PT.imp h fun σ H Q ⟨ρ, G, F, Γ, r, h⟩ => by
  unfold dtBor at h
  split at h
  · rename_i t o e
    split at h
    · rename_i d hd
      obtain ⟨v, Fi, F1, hv, ht, how, r1, nd, hm, gn⟩ := r.take e
      have hden : Den X.K (DL.icy G H Fi) d v := Ow.icy gn o v Fi d (fun _ z => z) how hd
      obtain ⟨F2, hF2, r2⟩ := (r1.icy gn nd).set' i hden
      rw [setSelf hv, List.set_set] at r2
      refine ⟨ρ, _, F2, _, r2, ?_⟩
      split at h
      · rename_i res Γ' ea
        rw [ea]
        intro G1 H1 F3 st r3
        obtain ⟨gr, _⟩ := st
        have g2 := gr.less gn (Ow.dom o v Fi how)
        exact h _ H1 F g2.step (r.gr g2)
      · exact False.elim h
    · exact False.elim h
  · rename_i d e
    refine ⟨ρ, G, F, Γ, r, ?_⟩
    split at h
    · rename_i res Γ' ea
      rw [ea]
      intro G1 H1 F3 st r3
      obtain ⟨gr, _⟩ := st
      exact h G1 H1 F gr.step (r.gr gr)
    · exact False.elim h
  · exact False.elim h
section
variable {a b : Expr} {φ ψ : DE} {pos : Pos}
theorem st_ltA (ha : SD X m W a φ) (hb : SD X m W b ψ) : ST X m W (.Compare a [.Lt] [b] pos) (dtB (d2 oLtA φ ψ)) := st_cmp (op_lt.or op_lt_str) ((v_iB _).or v_ltS) ha hb (nomark _)
theorem st_leA (ha : SD X m W a φ) (hb : SD X m W b ψ) : ST X m W (.Compare a [.LtE] [b] pos) (dtB (d2 oLeA φ ψ)) := st_cmp (op_le.or op_le_str) ((v_iB _).or v_leS) ha hb (nomark _)
theorem st_gtA (ha : SD X m W a φ) (hb : SD X m W b ψ) : ST X m W (.Compare a [.Gt] [b] pos) (dtB (d2 oGtA φ ψ)) := st_cmp (op_gt.or op_gt_str) ((v_iB _).or v_gtS) ha hb (nomark _)
theorem st_geA (ha : SD X m W a φ) (hb : SD X m W b ψ) : ST X m W (.Compare a [.GtE] [b] pos) (dtB (d2 oGeA φ ψ)) := st_cmp (op_ge.or op_ge_str) ((v_iB _).or v_geS) ha hb (nomark _)
theorem st_eqA {k : Nat} (hr : Room k X.A) (ha : SD X m W a φ) (hb : SD X m W b ψ) : ST X m W (.Compare a [.Eq] [b] pos) (dtB (d2 oEqA φ ψ)) := st_cmp (op_eq.or (op_eqD hr.units)) (v_eq.or v_eqD) ha hb (nomark _)
theorem st_neA {k : Nat} (hr : Room k X.A) (ha : SD X m W a φ) (hb : SD X m W b ψ) : ST X m W (.Compare a [.NotEq] [b] pos) (dtB (d2 oNeA φ ψ)) := st_cmp (op_ne.or (op_neD hr.units)) (v_ne.or v_neD) ha hb (nomark _)
theorem st_isN (ha : SD X m W a φ) (hb : SD X m W b ψ) : ST X m W (.Compare a [.Is] [b] pos) (dtB (d2 oIsN φ ψ)) := st_cmp op_isN v_isN ha hb (nomark _)
theorem st_notN (ha : SD X m W a φ) (hb : SD X m W b ψ) : ST X m W (.Compare a [.IsNot] [b] pos) (dtB (d2 oNotN φ ψ)) := st_cmp op_notN v_notN ha hb (nomark _)
end
end
end DL
end
section
set_option Elab.async false
set_option linter.all false
set_option maxRecDepth 100000
/-! DL13: great numbers, gcd. -/
namespace DL
open PySem L2
section
variable {X : Cx} {K : PySem.W.Frag} {m : Bool} {W : WX}
def cMulW (i j : Int) : Bool := decide (i.natAbs.log2 + j.natAbs.log2 < 1000000)
theorem cMulW_ok (i j : Int) (h : cMulW i j = true) : CMulW i j := by
  simp only [cMulW, decide_eq_true_eq] at h
  exact h
def cDivW (_ j : Int) : Bool := decide (0 < j) && decide (j.natAbs.log2 < 9000)
theorem cDivW_ok (i j : Int) (h : cDivW i j = true) : CDivW i j := by
  simp only [cDivW, Bool.and_eq_true, decide_eq_true_eq] at h
  exact h
abbrev oMulW := iIc cMulW fun i j => i * j
abbrev oDivW := iIc cDivW fun i j => i / j
theorem sd_mulW {a b : Expr} {φ ψ : DE} {pos : Pos} (ha : SD X m W a φ) (hb : SD X m W b ψ) : SD X m W (.BinOp a .Mult b pos) (d2 oMulW φ ψ) := sd_op op_mulW (v_iIc cMulW_ok _) ha hb
theorem sd_divW {a b : Expr} {φ ψ : DE} {pos : Pos} (ha : SD X m W a φ) (hb : SD X m W b ψ) : SD X m W (.BinOp a .FloorDiv b pos) (d2 oDivW φ ψ) := sd_op op_fdivW (v_iIc cDivW_ok _) ha hb
def oGcd : List D → Option D := two fun x y => match x, y with
  | .int a, .int b => some (.int ((Nat.gcd a.natAbs b.natAbs : Nat) : Int))
  | _, _ => none
theorem v_gcd : Vops K rGcd oGcd := by
  intro G H vs ds Q s hd h
  obtain ⟨d, e, v, w, rfl, hd, he, h⟩ := dens2 hd h
  cases d <;> cases e <;> first | exact False.elim h | skip
  rename_i a b
  exact ⟨a, b, by rw [show v = .int a from hd, show w = .int b from he], PGo.int s h⟩
theorem sd_callBf {x : Str} {p pos : Pos} {e : Expr} {es : List Expr} {δ : DA} {id : String} {r : List V → Hp → VK → Prop} {f : List D → Option D} (hc : CallR X (.builtin id) r) (hv : Vops X.K r f) (hg : Gl X x) (hm : X.mg x = some (.builtin id)) (ha : SA X m W (e :: es) δ) (hdb : (x == ("__debug__" : Str)) = false := by decide)
    (he : starEach (e :: es) X.env = (false, eval e X.env) :: starEach es X.env := by rfl) (hpl : (backTo pos (starEach es X.env)).any (·.1) = false := by rfl) : SD X m W (.Call (.Name x p) (e :: es) [] pos) (dA f δ) := (pe_callBfun hc hg hm ha hdb he hpl).imp fun σ H Q ⟨ρ, G, F, Γ, rr, h⟩ => by
  refine ⟨ρ, G, F, Γ, rr, (Aft.bind h).mono fun ds Γ1 G1 H1 F1 ⟨r1, h1⟩ vs hds => ?_⟩
  exact hv G1 H1 vs ds Q r1.sub hds (Aft.pgo r1 h1)
theorem sd_gcd {p pos : Pos} {e e2 : Expr} {δ : DA} (hg : Gl X "gcd") (hm : X.mg "gcd" = some (.builtin "math.gcd")) (ha : SA X m W [e, e2] δ) (he : starEach [e, e2] X.env = (false, eval e X.env) :: starEach [e2] X.env := by rfl) (hpl : (backTo pos (starEach [e2] X.env)).any (·.1) = false := by rfl) : SD X m W (.Call (.Name "gcd" p) [e, e2] [] pos) (dA oGcd δ) := sd_callBf cr_gcd v_gcd hg hm ha (by decide) he hpl
end
end DL
end
section
set_option Elab.async false
set_option linter.all false
set_option maxRecDepth 100000
/-! DL14: sorted of data, a list's or a tuple's, any length, also reversed. -/
namespace L2
open PySem PySem.Spec PyProof.Rows PySem.W
section
variable {prog : Program} {w : World} {A : Around} {E : Value → Shared → Prop} {s : Shared}
theorem sortAny {l : Addr} {T : String} {o : Obj} {items : Array Value} {n : Nat} {kw : List (Str × Value)} {Q : Value → Shared → Prop} (hT : T = "list" ∨ T = "tuple") (ho : s.heap.get? l = some o) (hc : o.cls = .type T) (hd : o.data = .seq items n) (hL : items.size ≤ sizeLine)
    (ha1 : argsOk "sorted" ⟨[.ref l], kw⟩) (ha2 : ∀ x, argsOk "list.sort" ⟨[.ref x], kw⟩)
    (body : ∀ (g : Heap) (E' : Value → Shared → Prop), (∀ b u, s.heap.get? b = some u → g.get? b = some u) → wpAny (model prog w) A.in1.in1 (Builtin.«list.sort» ⟨[.ref g.objs.size], kw⟩) (fun f s' => f = .done (.ret .none) ∧ Q (.ref g.objs.size) s') E' { s with heap := g.push (seqObj "list" items 0) }) :
    wpAny (model prog w) A (call (.builtin "sorted") [.ref l] kw) Q E s := by
  refine call_function_entry_kw kind_sorted plain_sorted entry_sorted ha1 ?_
  unfold Builtin.«sorted»
  refine wpAny_bind (m := checkCount "sorted" 1 1 _) (wpAny_pure ?_)
  refine wpAny_bind (wpAny_collect_seq (hsz := hL) l hT ho hc hd fun g hg => ?_)
  refine wpAny_bind (wpAny_newList ?_ (by rw [Array.length_toList]; exact hL))
  rw [Array.toArray_toList]
  refine wpAny_bind (wpAny_holding (wpAny_call_entry_kw slot_list_sort ⟨_, Heap.get?_push_size _ rfl, rfl⟩ entry_list_sort ?_ (ha2 _)))
  refine wpAny_mono (body g _ hg) (fun f s' ⟨e, q⟩ => ?_) fun _ _ e => e
  subst e
  exact ⟨_, rfl, wpAny_pure ⟨_, rfl, q⟩⟩
theorem sortRun {β : Type} {l : Addr} {T : String} {o : Obj} {items : Array Value} {n : Nat} {kw : List (Str × Value)} {b : Bool} {bs : List β} {enc : β → PyData} {R : Value → β → Prop} {Q : Value → Shared → Prop} (hT : T = "list" ∨ T = "tuple") (ho : s.heap.get? l = some o) (hc : o.cls = .type T) (hd : o.data = .seq items n) (hL : items.size ≤ sizeLine)
    (hkw : ∀ a, Builtin.«list.sort» ⟨[.ref a], kw⟩ = Builtin.«list.sort» ⟨[.ref a], [(Str.ofString "reverse", .bool b)]⟩) (ha1 : argsOk "sorted" ⟨[.ref l], kw⟩) (ha2 : ∀ x, argsOk "list.sort" ⟨[.ref x], kw⟩)
    (e : EachIs R items.toList bs) (er : EachIs (fun v b => ∃ as, Reads s.heap v (enc b) as) items.toList bs) (hal : AllAlike (bs.map enc)) (hk : Sortable (bs.map enc)) (hu : ∀ b, b ∈ bs → A.units + 2 + (enc b).depth < cLine)
    (h : ∀ (g : Heap) (p : Addr) (out : List Value) (ep : Nat), (∀ a u, s.heap.get? a = some u → g.get? a = some u) → s.heap.get? p = none → g.get? p = some (seqObj "list" out.toArray ep) → EachIs R out (bs.mergeSort (dataLe b enc)) → Q (.ref p) { s with heap := g }) :
    wpAny (model prog w) A (call (.builtin "sorted") [.ref l] kw) Q E s := by
  refine sortAny hT ho hc hd hL ha1 ha2 fun g E' hg => ?_
  rw [hkw]
  have hsz : s.heap.get? g.objs.size = none := by
    cases q : s.heap.get? g.objs.size with
    | none => rfl
    | some u => exact absurd (Heap.lt_size (hg _ _ q)) (Nat.lt_irrefl _)
  have k1 : ∀ a u, s.heap.get? a = some u → (sortingHeap (g.push (seqObj "list" items 0)) g.objs.size items.toList).get? a = some u := fun a u q =>
    sortingHeap_old (Nat.ne_of_lt (Heap.lt_size (hg _ _ q))) (Heap.get?_push_of_some _ (hg _ _ q))
  have er' : EachIs (fun v b => ∃ as, Reads (sortingHeap (g.push (seqObj "list" items 0)) g.objs.size items.toList) v (enc b) as) items.toList bs := er.mono fun _ _ ⟨as, r⟩ => ⟨as, PyProof.Rows.Reads.keeps k1 r⟩
  have ho2 : (g.push (seqObj "list" items 0)).get? g.objs.size = some (seqObj "list" items.toList.toArray 0) := by rw [Array.toArray_toList]; exact Heap.get?_push_size _ rfl
  refine list_sort_rev_vals (s := { s with heap := g.push (seqObj "list" items 0) }) (vs := items.toList) ho2 (SortsAt.data (s := { s with heap := sortingHeap (g.push (seqObj "list" items 0)) g.objs.size items.toList }) (each_map (R := fun v d => ∃ as, Reads (sortingHeap (g.push (seqObj "list" items 0)) g.objs.size items.toList) v d as) enc er') hal hk (bound_map hu)) (by rw [Array.length_toList]; exact hL) ⟨rfl, ?_⟩
  obtain ⟨ep, he⟩ := sortedHeap_at (out := (sortVals (dataKind (sortingHeap (g.push (seqObj "list" items 0)) g.objs.size items.toList) (bs.map enc)) b items.toList items.toList).toArray) ho2
  refine h _ _ _ ep (fun a u q => ?_) hsz he (sortVals_data b e er' hal)
  rw [sortedHeap_old (Nat.ne_of_lt (Heap.lt_size (hg _ _ q))) (Heap.lt_size (Heap.get?_push_of_some _ (hg _ _ q)))]
  exact Heap.get?_push_of_some _ (hg _ _ q)
end
end L2
namespace DL
open PySem L2 PySem.Spec PyProof.Rows PySem.W
/-! sorted of data -/
def alikes (xs : List D) : Bool := xs.all fun x => xs.all fun y => alike x.py y.py
def D.tup1 : D → Bool
  | .tup (_ :: _) => true
  | _ => false
def D.atom : D → Bool
  | .int _ => true
  | .str _ => true
  | .bl _ => true
  | .lst _ => true
  | _ => false
def sortable (xs : List D) : Bool := xs.all D.tup1 || xs.all D.atom
def depths (xs : List D) : Bool := xs.all fun x => x.py.canLay0 && decide (x.py.depth ≤ 60)
def sortD (b : Bool) (xs : List D) : List D := xs.mergeSort (dataLe b D.py)
def oSorted (b : Bool) : D → Option D
  | .lst xs => if alikes xs && sortable xs && depths xs then some (.lst (sortD b xs)) else none
  | .tup xs => if alikes xs && sortable xs && depths xs then some (.lst (sortD b xs)) else none
  | _ => none
def rSortedD (K : PySem.W.Frag) (b : Bool) : List V → Hp → VK → Prop := fun vs H Q => ∃ (a : Addr) (xs : List V) (ps : List (D × V)) (G : Hp), vs = [.ref a] ∧ Same G H ∧ (SqL K H a xs ∨ SqT K H a xs) ∧ ps.map (·.2) = xs ∧ (∀ p ∈ ps, Den K G p.1 p.2) ∧
  alikes (ps.map (·.1)) = true ∧ sortable (ps.map (·.1)) = true ∧ depths (ps.map (·.1)) = true ∧ ∀ q, H q = none → Q (.ref q) (upd H q (.lst ((ps.mergeSort (dataLe b fun p => p.1.py)).map (·.2))))
theorem alikes_ok {xs : List D} (h : alikes xs = true) : AllAlike (xs.map D.py) := by
  simp only [alikes, List.all_eq_true] at h
  intro d hd d' hd'
  obtain ⟨x, hx, rfl⟩ := List.mem_map.mp hd
  obtain ⟨y, hy, rfl⟩ := List.mem_map.mp hd'
  exact h x hx y hy
theorem sortable_ok {xs : List D} (h : sortable xs = true) : Sortable (xs.map D.py) := by
  simp only [sortable, Bool.or_eq_true, List.all_eq_true] at h
  rcases h with h | h
  · refine .inl fun d hd => ?_
    obtain ⟨x, hx, rfl⟩ := List.mem_map.mp hd
    have := h x hx
    cases x <;> first | cases this | skip
    rename_i ys
    cases ys with
    | nil => cases this
    | cons y ys => exact ⟨y.py, D.pys ys, by simp only [D.py, D.pys]⟩
  · refine .inr fun d hd => ?_
    obtain ⟨x, hx, rfl⟩ := List.mem_map.mp hd
    have := h x hx
    cases x <;> first | (constructor <;> simp [D.py]; done) | cases this
theorem vals_each {R : Value → D × V → Prop} : ∀ {ps : List (D × V)} {its : List Value}, Vals (ps.map (·.2)) its → (∀ p ∈ ps, ∀ v, RelV p.2 v → R v p) → EachIs R its ps
  | [], its, r, h => by cases r; exact .nil
  | p :: ps, its, r, h => by
    cases r with
    | cons q t => exact .cons (h p (List.mem_cons_self ..) _ q) (vals_each t fun p' hp => h p' (List.mem_cons_of_mem _ hp))
theorem each_vals {R : Value → D × V → Prop} (hR : ∀ v p, R v p → RelV p.2 v) : ∀ {out : List Value} {ps : List (D × V)}, EachIs R out ps → Vals (ps.map (·.2)) out
  | _, _, .nil => .nil
  | _, _, .cons q t => .cons (hR _ _ q) (each_vals hR t)
theorem sorted_on {X : Cx} {b : Bool} {kw : List (Str × Value)} {pins : List (Addr × Obj)} {s : Shared} {σ : L2.St} {H : Hp} {vs : List V} {us : List Value} {Q : VK} (hu : X.A.units + 64 < cLine) (I : Inv X pins σ H s) (r : Vals vs us) (h : rSortedD X.K b vs H Q)
    (hk : ∀ a, Builtin.«list.sort» ⟨[.ref a], kw⟩ = Builtin.«list.sort» ⟨[.ref a], [(Str.ofString "reverse", .bool b)]⟩) (ha1 : ∀ a, argsOk "sorted" ⟨[.ref a], kw⟩) (ha2 : ∀ a, argsOk "list.sort" ⟨[.ref a], kw⟩) :
    wpAny (model X.prog X.w) X.A (call (.builtin "sorted") us kw) (EP X pins σ Q) X.xe s := by
  obtain ⟨a, xs, ps, G, rfl, sm, hs, rfl, hd, c1, c2, c3, q⟩ := h
  rw [Vals.ref1 r]
  have go : ∀ (T : String) (o : Obj) (its : List Value) (n : Nat), (T = "list" ∨ T = "tuple") → s.heap.get? a = some o → o.cls = .type T → o.data = .seq its.toArray n → its.length ≤ sizeLine → Vals (ps.map (·.2)) its → wpAny (model X.prog X.w) X.A (call (.builtin "sorted") [.ref a] kw) (EP X pins σ Q) X.xe s := by
    intro T o its n hT ho hc hdt hL rv
    have er : EachIs (fun v (p : D × V) => ∃ as, Reads s.heap v p.1.py as) its.toArray.toList ps := by
      refine vals_each rv fun p hp v rp => ?_
      simp only [depths, List.all_eq_true, Bool.and_eq_true] at c3
      have := (c3 p.1 (List.mem_map_of_mem hp)).1
      exact Dp.reads I _ _ _ (Den.dp p.1 p.2 (Den.mono sm _ _ (hd p hp)) this) rp
    have e : EachIs (fun v (p : D × V) => RelV p.2 v) its.toArray.toList ps := vals_each rv fun p hp v rp => rp
    refine sortRun (β := D × V) (enc := fun p => p.1.py) (b := b) hT ho hc hdt (by simpa using hL) hk (ha1 _) ha2 e er (by
      have := alikes_ok c1
      rw [List.map_map] at this
      exact this) (by
      have := sortable_ok c2
      rw [List.map_map] at this
      exact this) (fun p hp => by
      simp only [depths, List.all_eq_true, Bool.and_eq_true, decide_eq_true_eq] at c3
      have := (c3 p.1 (List.mem_map_of_mem hp)).2
      omega) fun g p out ep k1 k2 k3 k4 => ?_
    have rv2 := each_vals (fun v p z => z) k4
    have hlen : ((ps.mergeSort (dataLe b fun p => p.1.py)).map (·.2)).length ≤ sizeLine := by
      rw [List.length_map, (List.mergeSort_perm ps _).length_eq]
      have := rv.length
      rw [List.length_map] at this
      omega
    exact ⟨.ref p, upd H p (.lst ((ps.mergeSort (dataLe b fun p => p.1.py)).map (·.2))), I.laidN (t' := s.toks) k1 k2 (I.hok.gone k2) ⟨hlen, out, ep, rv2, k3⟩, rfl, q p (I.hok.gone k2)⟩
  rcases hs with hs | hs
  · obtain ⟨its, rv, ⟨o, n, ho, hc, _, hd2⟩, hz⟩ := I.list hs
    exact go "list" o its n (.inl rfl) ho hc hd2 (by rw [← rv.length]; exact hz) rv
  · obtain ⟨its, rv, ⟨o, ho, hc, n, hd2⟩, hz⟩ := I.tuple hs
    exact go "tuple" o its n (.inr rfl) ho hc hd2 (by rw [← rv.length]; exact hz) rv

section
variable {X : Cx} {K : PySem.W.Frag} {m : Bool} {W : WX}
theorem dens_pairs {G : Hp} : ∀ {ds : List D} {vs : List V}, Dens K G ds vs → ∃ ps : List (D × V), ps.map (·.1) = ds ∧ ps.map (·.2) = vs ∧ ∀ p ∈ ps, Den K G p.1 p.2
  | [], vs, h => by simp only [Dens] at h; subst h; exact ⟨[], rfl, rfl, fun p hp => by cases hp⟩
  | d :: ds, vs, h => by
    obtain ⟨v, r, rfl, h2, h3⟩ := h
    obtain ⟨ps, e1, e2, e3⟩ := dens_pairs h3
    refine ⟨(d, v) :: ps, by simp [e1], by simp [e2], fun p hp => ?_⟩
    rcases List.mem_cons.mp hp with rfl | hp
    · exact h2
    · exact e3 p hp
theorem pairs_dens {G : Hp} : ∀ (ps : List (D × V)), (∀ p ∈ ps, Den K G p.1 p.2) → Dens K G (ps.map (·.1)) (ps.map (·.2))
  | [], _ => by simp [Dens]
  | p :: ps, h => ⟨_, _, rfl, h p (List.mem_cons_self ..), pairs_dens ps fun q hq => h q (List.mem_cons_of_mem _ hq)⟩
theorem v_sorted {b : Bool} : Vops K (rSortedD K b) (one (oSorted b)) := by
  intro G H vs ds Q s hd h
  obtain ⟨d, v, rfl, hd, h⟩ := dens1 hd h
  have go : ∀ (xs : List D) (a : Addr) (ws : List V), v = .ref a → (SqL K H a ws ∨ SqT K H a ws) → Dens K G xs ws → PGo K G H (if alikes xs && sortable xs && depths xs then some (.lst (sortD b xs)) else none) Q → rSortedD K b [v] H Q := by
    intro xs a ws hv hs hx h
    split at h
    · rename_i c
      simp only [Bool.and_eq_true] at c
      obtain ⟨ps, e1, e2, e3⟩ := dens_pairs hx
      refine ⟨a, ws, ps, G, by rw [hv], s, hs, e2, e3, by rw [e1]; exact c.1.1, by rw [e1]; exact c.1.2, by rw [e1]; exact c.2, fun q hq => ?_⟩
      have hp : ∀ p ∈ ps.mergeSort (dataLe b fun p => p.1.py), Den K G p.1 p.2 := fun p hp => e3 p ((List.mergeSort_perm ps _).mem_iff.mp hp)
      have es : sortD b xs = (ps.mergeSort (dataLe b fun p => p.1.py)).map (·.1) := by
        unfold sortD
        rw [← e1]
        exact (List.map_mergeSort (f := fun x : D × V => x.1) (r := dataLe b fun p => p.1.py) (s := dataLe b D.py) (fun _ _ _ _ => rfl)).symm
      have hD := pairs_dens _ hp
      rw [← es] at hD
      have g := Gr.new (o := .lst ((ps.mergeSort (dataLe b fun p => p.1.py)).map (·.2))) s hq
      exact h _ _ _ g ⟨q, _, rfl, SqL.of upd_same, Dens.mono g.g _ _ hD⟩
    · exact False.elim h
  cases d <;> first | exact False.elim h | skip
  case tup xs =>
    obtain ⟨a, ws, e, h2, h3⟩ := hd
    exact go xs a ws e (.inr (sqT_mono s h2)) h3 h
  case lst xs =>
    obtain ⟨a, ws, e, h2, h3⟩ := hd
    exact go xs a ws e (.inl (s.seq h2)) h3 h
theorem cr_sortedD (hu : X.A.units + 64 < cLine) : CallR X (.builtin "sorted") (rSortedD X.K false) := fun pins s σ H vs us Q I r h =>
  sorted_on (kw := []) hu I r h (fun a => plain_is_rev a) (fun _ => args_sorted1 _) (fun _ => args_list_sort _)
theorem cr_sortedDR {b : Bool} (hu : X.A.units + 64 < cLine) : CallRK X (.builtin "sorted") [Str.ofString "reverse"] (fun vs zs H Q => zs = [.bl b] ∧ rSortedD X.K b vs H Q) := by
  intro pins s σ H vs zs us ws Q I r rz ⟨ez, h⟩
  subst ez
  obtain ⟨w1, rfl, e1⟩ := vals1 rz
  obtain rfl : w1 = Value.bool b := e1
  exact sorted_on hu I r h (fun _ => rfl) (fun _ => PyProof.Rows.args_sorted_rev _ _) (fun _ => PyProof.Rows.args_list_sort_rev _ _)
variable {e : Expr} {δ : DA} {p pos : Pos} {k : Nat}
theorem sd_sorted (hr : Room k X.A) (hg : Gl X "sorted") (hm : X.mg "sorted" = none) (ha : SA X m W [e] δ) (he : starEach [e] X.env = (false, eval e X.env) :: starEach [] X.env := by rfl) (hpl : (backTo pos (starEach [] X.env)).any (·.1) = false := by rfl) : SD X m W (.Call (.Name "sorted" p) [e] [] pos) (dA (one (oSorted false)) δ) := sd_callB (cr_sortedD hr.units) v_sorted hg hm (by decide +kernel) ha (by decide) (by decide) he hpl
/-- sorted(xs, reverse=True) -/
theorem sd_sortedR (hr : Room k X.A) (hg : Gl X "sorted") (hm : X.mg "sorted" = none) (ha : SA X m W [e] δ) {kws : List Keyword} (hkw : PK X kws (tCons (LE X.K m W (dC (.bl true))) tNil))
    (he : backTo pos (starEach [e] X.env) = (false, eval e X.env) :: backTo pos (starEach [] X.env) := by rfl) (hpl : (backTo pos (starEach [e] X.env)).any (·.1) = false := by rfl)
    (hall : (backToKw pos (keywordEach kws X.env)).all (·.1.isSome) = true := by rfl) (hnone : (backToKw pos (keywordEach kws X.env)).any (·.1.isNone) = false := by rfl) (hks : (backToKw pos (keywordEach kws X.env)).filterMap (·.1) = [Str.ofString "reverse"] := by rfl) :
    SD X m W (.Call (.Name "sorted" p) [e] kws pos) (dA (one (oSorted true)) δ) := (pe_callBK (cr_sortedDR (b := true) hr.units) hg hm (by decide +kernel) ha hkw (by decide) (by decide) he hpl hall hnone hks).imp fun σ H Q ⟨ρ, G, F, Γ, rr, h⟩ => by
  refine ⟨ρ, G, F, Γ, rr, (Aft.bind h).mono fun ds Γ1 G1 H1 F1 ⟨r1, h1⟩ vs hds => ?_⟩
  refine ⟨ρ, G1, F1, Γ1, r1, fun G2 H2 F2 st r2 v hv => ?_⟩
  refine ⟨by rw [show v = .bl true from hv], v_sorted G2 H2 vs ds Q r2.sub ?_ ?_⟩
  · exact Dens.mono (Step.g st) _ _ hds
  · exact Aft.pgo r2 (Aft.step st h1)
end
end DL
end
section
set_option Elab.async false
set_option linter.all false
set_option maxRecDepth 100000
/-! DL15: sum(range(n)). -/
namespace L2
open PySem PySem.Spec PyProof.Rows
section
variable {X : Cx}
theorem cr_range1V : CallR X (.type "range") (fun vs H Q => ∃ j, vs = [V.int j] ∧ ∀ p, H p = none → Q (.ref p) (upd H p (.rng 0 j))) := by
  intro pins s σ H vs us Q I r h
  obtain ⟨j, rfl, q⟩ := h
  obtain ⟨u1, rfl, ri⟩ := vals1 r
  obtain ⟨t, rfl⟩ := ri
  refine call_range_1 ⟨.ref s.heap.objs.size, upd H s.heap.objs.size (.rng 0 j), I.laid (t' := s.toks + 2) (fun b o e => Heap.get?_push_of_some _ e) (Nat.le_refl _) ?_, rfl, q _ (I.hok.fresh (Nat.le_refl _))⟩
  exact ⟨_, _, _, Heap.get?_push_size _ rfl⟩
def rSumRng : List V → Hp → VK → Prop := fun vs H Q => ∃ (a : Addr) (lo hi : Int), vs = [V.ref a] ∧ H a = some (.rng lo hi) ∧ (-(2 ^ 62) ≤ lo ∧ lo < 2 ^ 62 ∧ -(2 ^ 62) ≤ hi ∧ hi < 2 ^ 62) ∧ Q (.int (PySem.preSum (fun i => lo + (i : Int)) (hi - lo).toNat)) H
theorem cr_sumRng (hc : X.calm = true) : CallR X (.builtin "sum") rSumRng := by
  intro pins s σ H vs us Q I r h
  obtain ⟨a, lo, hi, rfl, ha, ⟨h1, h2, h3, h4⟩, q⟩ := h
  rw [Vals.ref1 r]
  obtain ⟨t, u, v, e⟩ := I.hok a _ ha
  refine call_sum_walkAnyS (wpAny_pyIter_range (show IsRange s.heap a lo hi 1 t u v from e) (small_one h1 h2 h3 h4) ?_)
  have W := (Walks.range (prog := X.prog) (w := X.w) (A := X.A.in1) (I.ok.hd hc) s.heap.objs.size lo 1 (hi - lo).toNat).toS
  have e2 : (((hi - lo).toNat : Nat) : Int) - ((0 : Nat) : Int) = Builtin.Range.rangeSize lo hi 1 := by rw [rangeSize_one]; split <;> omega
  refine ⟨s.heap.objs.size, _, _, _, _, _, _, (fun i => lo + (i : Int)), rfl, W, ?_, fun b hb => ?_, fun i v ⟨t, e⟩ => ⟨t, by simpa using e⟩, fun s' t' hm => ?_⟩
  · show IsRangeIter _ _ (lo + ((0 : Nat) : Int) * 1) ((((hi - lo).toNat : Nat) : Int) - ((0 : Nat) : Int)) 1
    rw [e2, show lo + ((0 : Nat) : Int) * 1 = lo by simp]
    exact Heap.get?_push_size _ rfl
  · obtain rfl := List.mem_singleton.mp hb
    exact Heap.lt_size (Heap.get?_push_size _ rfl)
  · obtain ⟨h', g', d', tk', os'⟩ := s'
    have e1 : g' = s.gens := hm.gens
    have e3 : d' = s.drawn := hm.drawn
    have e4 : os' = s.os := hm.os
    subst e1 e3 e4
    exact ⟨.int _, H, I.kept (fun b o eb => hm.heap b o (fun hb => absurd (Heap.lt_size eb) ((List.mem_singleton.mp hb) ▸ Nat.lt_irrefl _)) (Heap.get?_push_of_some _ eb)), ⟨_, rfl⟩, q⟩
end
end L2
namespace DL
open PySem L2
section
variable {X : Cx} {K : PySem.W.Frag} {m : Bool} {W : WX}
def sumTo : Nat → Int
  | 0 => 0
  | n + 1 => sumTo n + n
theorem preSum_to : ∀ n : Nat, PySem.preSum (fun i => (0 : Int) + (i : Int)) n = sumTo n
  | 0 => rfl
  | n + 1 => by
    show PySem.preSum (fun i => (0 : Int) + (i : Int)) n + (0 + (n : Int)) = sumTo n + n
    rw [preSum_to n]; omega
def oSumR : List D → Option D
  | [.int j] => if big j then some (.int (sumTo j.toNat)) else none
  | _ => none
theorem sd_sumRange {e : Expr} {δ : DA} {p p2 pos pos2 : Pos} (hc : X.calm = true) (hg : Gl X "sum") (hm : X.mg "sum" = none) (hg2 : Gl X "range") (hm2 : X.mg "range" = none) (ha : SA X m W [e] δ)
    (he : starEach [e] X.env = (false, eval e X.env) :: starEach [] X.env := by rfl) (hpl : (backTo pos2 (starEach [] X.env)).any (·.1) = false := by rfl)
    (he2 : starEach [.Call (.Name "range" p2) [e] [] pos2] X.env = (false, eval (.Call (.Name "range" p2) [e] [] pos2) X.env) :: starEach [] X.env := by rfl) (hpl2 : (backTo pos (starEach [] X.env)).any (·.1) = false := by rfl) :
    SD X m W (.Call (.Name "sum" p) [.Call (.Name "range" p2) [e] [] pos2] [] pos) (dA oSumR δ) := (pe_callB (cr_sumRng hc) hg hm (by decide +kernel) (pa_cons (pe_callTy cr_range1V hg2 hm2 (by decide +kernel) ha (by decide) (by decide) he hpl) pa_nil he2) (by decide) (by decide) he2 hpl2).imp fun σ H Q ⟨ρ, G, F, Γ, rr, h⟩ => by
  refine ⟨ρ, G, F, Γ, rr, (Aft.bind h).mono fun ds Γ1 G1 H1 F1 ⟨r1, h1⟩ vs hds => ?_⟩
  have h2 := Aft.pgo r1 h1
  cases ds with
  | nil => exact False.elim h2
  | cons d r =>
    cases r with
    | cons _ _ => cases d <;> exact False.elim h2
    | nil =>
      cases d with
      | int j =>
        replace h2 : PGo X.K G1 H1 (if big j then some (.int (sumTo j.toNat)) else none) Q := h2
        obtain ⟨v, r, rfl, hv, hr⟩ := hds
        simp only [Dens] at hr
        subst hr
        cases hv
        split at h2
        · rename_i hb
          simp only [big, Bool.and_eq_true, decide_eq_true_eq] at hb
          refine ⟨j, rfl, fun p hp => ?_⟩
          have q := h2 (.int (sumTo j.toNat)) _ _ (Gr.new (o := .rng 0 j) r1.sub hp) rfl
          refine ⟨p, 0, j, rfl, upd_same, ⟨by decide, by decide, hb.1, hb.2⟩, ?_⟩
          rw [Int.sub_zero, preSum_to]
          exact q
        · exact False.elim h2
      | _ => exact False.elim h2
end
end DL
end
section
set_option Elab.async false
set_option linter.all false
set_option maxRecDepth 100000
/-! DL16: texts: join. -/
namespace DL
open PySem L2
section
variable {X : Cx} {K : PySem.W.Frag} {m : Bool} {W : WX}
def slist : List D → Option (List Str)
  | [] => some []
  | .str s :: r => (slist r).map (s :: ·)
  | _ :: _ => none
theorem slist_of : ∀ {ds : List D} {ss : List Str}, slist ds = some ss → ds = ss.map D.str
  | [], ss, h => by simp [slist] at h; subst h; rfl
  | d :: ds, ss, h => by
    cases d <;> first | (simp [slist] at h; done) | skip
    simp only [slist, Option.map_eq_some_iff] at h
    obtain ⟨r, h, rfl⟩ := h
    rw [slist_of h]; rfl
@[simp] theorem slist_map : ∀ ss : List Str, slist (ss.map D.str) = some ss
  | [] => rfl
  | s :: ss => by simp [slist, slist_map ss]
theorem dens_strs {G : Hp} : ∀ {ss : List Str} {vs : List V}, Dens K G (ss.map D.str) vs → vs = ss.map V.str
  | [], vs, h => by simp only [List.map_nil, Dens] at h; exact h
  | s :: ss, vs, h => by
    obtain ⟨v, r, rfl, h2, h3⟩ := h
    rw [dens_strs h3, show v = .str s from h2]; rfl
def joinOk (a : Str) (ys : List Str) : Bool := decide ((ys.map (·.length)).sum + ys.length * a.length ≤ 16777216)
def oJoin : D → D → Option D
  | .str a, .lst xs => (slist xs).bind fun ys => if joinOk a ys then some (.str (Txt.join a ys)) else none
  | .str a, .tup xs => (slist xs).bind fun ys => if joinOk a ys then some (.str (Txt.join a ys)) else none
  | _, _ => none
def dJoin (a b : DE) : DE := fun Γ => (a Γ).bind fun x Γ => match x with
  | .str s => (b Γ).bind fun y Γ => Res.ofO (oJoin (.str s) y) Γ
  | _ => .bad
theorem sd_join {o e : Expr} {δ ε : DE} {apos pos : Pos} (ho : SD X m W o δ) (he : SD X m W e ε) (hs : starEach [e] X.env = [(false, eval e X.env)] := by rfl) (hbase : attributeBase o "join" X.env (eval o X.env) = eval o X.env := by rfl) (hline : (apos.endLine == pos.line) = true := by rfl) :
    SD X m W (.Call (.Attribute o "join" apos) [e] [] pos) (dJoin δ ε) := (pe_join ho he hs hbase hline).imp fun σ H Q ⟨ρ, G, F, Γ, rr, h⟩ => by
  refine ⟨ρ, G, F, Γ, rr, (Aft.bind h).mono fun d Γ1 G1 H1 F1 ⟨r1, h1⟩ x hx => ?_⟩
  cases d with
  | str s =>
    cases hx
    refine ⟨⟨s, rfl⟩, ρ, G1, F1, Γ1, r1, (Aft.bind h1).mono fun d2 Γ2 G2 H2 F2 ⟨r2, h2⟩ y hy => ?_⟩
    have h3 := Aft.pgo r2 h2
    have go : ∀ (xs : List D) (p : Addr) (vs : List V), y = .ref p → (SqL X.K H2 p vs ∨ SqT X.K H2 p vs) → Dens X.K G2 xs vs → PGo X.K G2 H2 ((slist xs).bind fun ys => if joinOk s ys then some (.str (Txt.join s ys)) else none) Q →
        ∃ a p, ∃ ys : List Str, V.str s = .str a ∧ [y] = [V.ref p] ∧ (SqL X.K H2 p (ys.map V.str) ∨ SqT X.K H2 p (ys.map V.str)) ∧ (ys.map (·.length)).sum + ys.length * a.length ≤ 16777216 ∧ Q (.str (Txt.join a ys)) H2 := by
      intro xs p vs ey hs2 hd h4
      cases q : slist xs with
      | none => rw [q] at h4; exact False.elim h4
      | some ys =>
        rw [q] at h4
        replace h4 : PGo X.K G2 H2 (if joinOk s ys then some (.str (Txt.join s ys)) else none) Q := h4
        cases slist_of q
        cases dens_strs hd
        split at h4
        · rename_i hj
          exact ⟨s, p, ys, rfl, by rw [ey], hs2, of_decide_eq_true hj, PGo.val r2.sub h4 rfl⟩
        · exact False.elim h4
    cases d2 with
    | lst xs =>
      obtain ⟨p, vs, ey, e2, e3⟩ := hy
      exact go xs p vs ey (.inl (r2.sub.seq e2)) e3 h3
    | tup xs =>
      obtain ⟨p, vs, ey, e2, e3⟩ := hy
      exact go xs p vs ey (.inr (sqT_mono r2.sub e2)) e3 h3
    | _ => exact False.elim h3
  | _ => exact False.elim h1
/-! in, not in -/
def D.av : D → Option V
  | .non => some .non
  | .bl b => some (.bl b)
  | .int i => some (.int i)
  | .str s => some (.str s)
  | _ => none
def avs : List D → Option (List V)
  | [] => some []
  | d :: ds => (D.av d).bind fun v => (avs ds).map (v :: ·)
theorem av_den {G : Hp} {d : D} {v w : V} (h : Den K G d v) (e : d.av = some w) : v = w ∧ flatV w = true := by
  cases d <;> simp [D.av] at e <;> subst e <;> cases h <;> exact ⟨rfl, rfl⟩
theorem avs_den {G : Hp} : ∀ {ds : List D} {vs ws : List V}, Dens K G ds vs → avs ds = some ws → vs = ws ∧ ws.all flatV = true
  | [], vs, ws, h, e => by simp only [Dens] at h; simp [avs] at e; subst h e; exact ⟨rfl, rfl⟩
  | d :: ds, vs, ws, h, e => by
    obtain ⟨v, r, rfl, h2, h3⟩ := h
    simp only [avs, Option.bind_eq_some_iff, Option.map_eq_some_iff] at e
    obtain ⟨w, e1, ws', e2, rfl⟩ := e
    obtain ⟨rfl, f1⟩ := av_den h2 e1
    obtain ⟨rfl, f2⟩ := avs_den h3 e2
    exact ⟨rfl, by simp [f1, f2]⟩
def inW (neg : Bool) (x : D) (ys : List D) : Option D := (x.av).bind fun v => (avs ys).map fun ws => .bl (if neg then !inV v ws else inV v ws)
def oIn (neg : Bool) : D → D → Option D
  | x, .lst ys => inW neg x ys
  | x, .tup ys => inW neg x ys
  | _, _ => none
theorem v_in {neg : Bool} : Vop2 K (rIn K neg) (oIn neg) := by
  intro G H x y dx dy Q s hx hy h
  have go : ∀ (ys : List D) (p : Addr) (vs : List V), y = .ref p → (SqL K H p vs ∨ SqT K H p vs) → Dens K G ys vs → PGo K G H (inW neg dx ys) Q → rIn K neg x y H Q := by
    intro ys p vs ey hs hd h
    unfold inW at h
    cases e1 : dx.av with
    | none => rw [e1] at h; exact False.elim h
    | some v =>
      cases e2 : avs ys with
      | none => rw [e1, e2] at h; exact False.elim h
      | some ws =>
        rw [e1, e2] at h
        obtain ⟨rfl, f1⟩ := av_den hx e1
        obtain ⟨rfl, f2⟩ := avs_den hd e2
        exact ⟨p, _, ey, hs, f1, f2, PGo.val s h rfl⟩
  cases dy with
  | lst ys =>
    obtain ⟨p, vs, ey, e2, e3⟩ := hy
    exact go ys p vs ey (.inl (s.seq e2)) e3 h
  | tup ys =>
    obtain ⟨p, vs, ey, e2, e3⟩ := hy
    exact go ys p vs ey (.inr (sqT_mono s e2)) e3 h
  | _ => exact False.elim h
theorem sd_in {a b : Expr} {φ ψ : DE} {pos : Pos} (ha : SD X m W a φ) (hb : SD X m W b ψ) (hm : behindInMarks .In b = false := by rfl) : SD X m W (.Compare a [.In] [b] pos) (d2 (oIn false) φ ψ) := sd_cmp op_in_seq v_in ha hb hm
theorem sd_notIn {a b : Expr} {φ ψ : DE} {pos : Pos} (ha : SD X m W a φ) (hb : SD X m W b ψ) (hm : behindInMarks .NotIn b = false := by rfl) : SD X m W (.Compare a [.NotIn] [b] pos) (d2 (oIn true) φ ψ) := sd_cmp op_notIn_seq v_in ha hb hm
theorem st_in {a b : Expr} {φ ψ : DE} {pos : Pos} (ha : SD X m W a φ) (hb : SD X m W b ψ) (hm : behindInMarks .In b = false := by rfl) : ST X m W (.Compare a [.In] [b] pos) (dtB (d2 (oIn false) φ ψ)) := st_cmp op_in_seq v_in ha hb hm
theorem st_notIn {a b : Expr} {φ ψ : DE} {pos : Pos} (ha : SD X m W a φ) (hb : SD X m W b ψ) (hm : behindInMarks .NotIn b = false := by rfl) : ST X m W (.Compare a [.NotIn] [b] pos) (dtB (d2 (oIn true) φ ψ)) := st_cmp op_notIn_seq v_in ha hb hm
/-! constants of the module -/
def ConOk (K : PySem.W.Frag) (mg : Str → Option Value) (x : Str) (d : D) : Prop := ∃ (u : Value) (v : V), mg x = some u ∧ RelV v u ∧ ∀ G : Hp, Den K G d v
theorem sd_con {x : Str} {d : D} {p : Pos} (hg : Gl X x) (hc : ConOk X.K X.mg x d) (hdb : (x == ("__debug__" : Str)) = false := by decide) : SD X m W (.Name x p) (dC d) := by
  obtain ⟨u, v, hm, r, hd⟩ := hc
  exact (pe_glob hg hm r hdb).imp fun σ H Q ⟨ρ, G, F, Γ, rr, h⟩ => Aft.okv rr h (hd G)
theorem con_tup {mg : Str → Option Value} {x : Str} {a : Addr} {od : Option Addr} {its : Array Value} {n : Nat} {sl : Array (Option Value)} {ds : List D} {vs : List V} (hm : mg x = some (.ref a)) (hl : K.lookup a = some ⟨.type "tuple", od, .seq its n, sl⟩) (hz : its.size ≤ sizeLine) (hv : Vals vs its.toList) (hd : ∀ G : Hp, Dens K G ds vs) : ConOk K mg x (.tup ds) :=
  ⟨.ref a, .ref a, hm, rfl, fun G => ⟨a, vs, rfl, .inr ⟨_, its, n, hl, rfl, rfl, hz, hv⟩, hd G⟩⟩
end
end DL
end
section
set_option Elab.async false
set_option linter.all false
set_option maxRecDepth 100000
/-! DL17: a for over a text's signs. -/
namespace DL
open PySem L2
section
variable {X : Cx} {K : PySem.W.Frag} {m : Bool} {W : WX} {G : Hp}
def signs (z : Str) : List D := z.cps.toList.map fun c => .str ⟨#[c]⟩
theorem yields_str {z : Str} : Yields K G (Its z) (signs z) := fun i G1 H1 s1 s2 => by
  refine ⟨fun d e => ?_, fun hi => ?_⟩
  · simp only [signs, List.getElem?_map, Option.map_eq_some_iff] at e
    obtain ⟨c, e, rfl⟩ := e
    rw [Array.getElem?_toList] at e
    refine ⟨(Array.getElem?_eq_some_iff.mp e).1, fun x H' ⟨eH, c', e', ex⟩ => ?_⟩
    subst eH
    rw [e] at e'
    cases e'
    exact ⟨G1, Gr.refl s2, ex⟩
  · show z.cps.size ≤ i
    simpa [signs] using hi
def diC (a : DE) : DI := fun Γ => (a Γ).bind fun d Γ => (match d with
  | .str z => .ok (signs z) Γ
  | _ => .bad)
theorem si_str {tg l : Expr} {a : DE} (h : SD X m W l a) : SI X m W tg l (diC a) := (pi_str h).imp fun σ H Rr ⟨ρ, G, F, Γ, r, h⟩ => by
  refine ⟨ρ, G, F, Γ, r, (Aft.bind h).mono fun d Γ1 G1 H1 F1 ⟨r1, h1⟩ v hd => ?_⟩
  cases d with
  | str z =>
    cases hd
    exact ⟨z, rfl, h1 G1 H1 F1 (Step.refl r1.sub) r1 _ yields_str⟩
  | _ => exact False.elim h1
end
end DL
end
section
set_option Elab.async false
set_option linter.all false
/-! Plain evaluation of denotations: what holds behind a result. Continuations are constants, so that simp walks from the head. -/
namespace DL
open PySem L2
def Wp {α : Type} (r : Res α) (P : α → Ga → Prop) (E : Ex → Ga → Prop) : Prop := match r with
  | .ok a Γ => P a Γ
  | .ex x Γ => E x Γ
  | .bad => False
abbrev EX := Ex → Ga → Prop
def nE : EX := fun _ _ => False
section
variable {α β : Type} {E : EX} {P : D → Ga → Prop} {Γ : Ga} {PS : Fl → Ga → Prop} {PO : O → Ga → Prop} {PA : List Ar → Ga → Prop} {PB : Bool → Ga → Prop} {PL : List D → Ga → Prop} {PI : Option Int → Ga → Prop}
theorem w_ok {P : α → Ga → Prop} {a : α} : Wp (.ok a Γ) P E = P a Γ := rfl
theorem w_bind {r : Res α} {f : α → Ga → Res β} {P : β → Ga → Prop} : Wp (r.bind f) P E = Wp r (fun a Γ => Wp (f a Γ) P E) E := by cases r <;> rfl
theorem w_mono {r : Res α} {P Q : α → Ga → Prop} (h : Wp r P E) (i : ∀ a Γ, P a Γ → Q a Γ) : Wp r Q E := by cases r <;> first | exact i _ _ h | exact h
theorem w_monoE {r : Res α} {P Q : α → Ga → Prop} {E' : EX} (h : Wp r P E) (i : ∀ a Γ, P a Γ → Q a Γ) (j : ∀ a Γ, E a Γ → E' a Γ) : Wp r Q E' := by cases r <;> first | exact i _ _ h | exact j _ _ h | exact h
theorem w_val {r : Res α} {P : α → Ga → Prop} (h : Wp r P nE) : ∃ a Γ, r = .ok a Γ ∧ P a Γ := by cases r <;> first | exact ⟨_, _, rfl, h⟩ | exact False.elim h
theorem w_eq {r : Res α} {P : α → Ga → Prop} {a : α} {Γ' : Ga} (e : r = .ok a Γ') (h : P a Γ') : Wp r P E := by rw [e]; exact h
theorem w_ext {r : Res α} {P Q : α → Ga → Prop} (h : ∀ a Γ, P a Γ = Q a Γ) : Wp r P E = Wp r Q E := by cases r <;> first | exact h _ _ | rfl
theorem w_of {P : α → Ga → Prop} {o : Option α} {a : α} (e : o = some a) (h : P a Γ) : Wp (Res.ofO o Γ) P E := by rw [e]; exact h

theorem w_some {P : α → Ga → Prop} {a : α} : Wp (Res.ofO (some a) Γ) P E = P a Γ := (rfl)
theorem w_ofIf {P : α → Ga → Prop} {c : Prop} [Decidable c] {a : α} : Wp (Res.ofO (if c then some a else none) Γ) P E = (c ∧ P a Γ) := by by_cases h : c <;> simp [h, Res.ofO, Wp]
theorem w_ofMap {P : α → Ga → Prop} {γ : Type} {o : Option γ} {f : γ → α} : Wp (Res.ofO (o.map f) Γ) P E = ∃ j, o = some j ∧ P (f j) Γ := by cases o <;> simp [Res.ofO, Wp]
def vAt (s : Option Sl) (k : D → Ga → Prop) (Γ : Ga) : Prop := match s with
  | some (.fz d) => k d Γ
  | _ => False
theorem vAt_fz {d : D} {k : D → Ga → Prop} : vAt (some (.fz d)) k Γ = k d Γ := (rfl)
theorem w_var {i : Nat} : Wp (dVar i Γ) P E = vAt Γ[i]? P Γ := by
  unfold dVar vAt
  cases e : Γ[i]? with
  | none => rfl
  | some s => cases s <;> rfl
theorem w_C {d : D} : Wp (dC d Γ) P E = P d Γ := (rfl)
def k1 (f : D → Option D) (P : D → Ga → Prop) (E : EX) : D → Ga → Prop := fun x Γ => Wp (Res.ofO (f x) Γ) P E
theorem k1_ {f : D → Option D} {P : D → Ga → Prop} {E : EX} {x : D} {Γ : Ga} : k1 f P E x Γ = (Wp (Res.ofO (f x) Γ) P E) := (rfl)
theorem w_1 {f : D → Option D} {a : DE} : Wp (d1 f a Γ) P E = Wp (a Γ) (k1 f P E) E := w_bind
def k2b (f : D → D → Option D) (x : D) (P : D → Ga → Prop) (E : EX) : D → Ga → Prop := fun y Γ => Wp (Res.ofO (f x y) Γ) P E
theorem k2b_ {f : D → D → Option D} {x : D} {P : D → Ga → Prop} {E : EX} {y : D} {Γ : Ga} : k2b f x P E y Γ = (Wp (Res.ofO (f x y) Γ) P E) := (rfl)
def k2 (f : D → D → Option D) (b : DE) (P : D → Ga → Prop) (E : EX) : D → Ga → Prop := fun x Γ => Wp (b Γ) (k2b f x P E) E
theorem k2_ {f : D → D → Option D} {b : DE} {P : D → Ga → Prop} {E : EX} {x : D} {Γ : Ga} : k2 f b P E x Γ = (Wp (b Γ) (k2b f x P E) E) := (rfl)
theorem w_2 {f : D → D → Option D} {a b : DE} : Wp (d2 f a b Γ) P E = Wp (a Γ) (k2 f b P E) E := by unfold d2; rw [w_bind]; exact w_ext fun _ _ => w_bind
def kA (f : List D → Option D) (P : D → Ga → Prop) (E : EX) : List D → Ga → Prop := fun xs Γ => Wp (Res.ofO (f xs) Γ) P E
theorem kA_ {f : List D → Option D} {P : D → Ga → Prop} {E : EX} {xs : List D} {Γ : Ga} : kA f P E xs Γ = (Wp (Res.ofO (f xs) Γ) P E) := (rfl)
theorem w_A {f : List D → Option D} {a : DA} : Wp (dA f a Γ) P E = Wp (a Γ) (kA f P E) E := w_bind
def kMb (f : D → List D → Option D) (x : D) (P : D → Ga → Prop) (E : EX) : List D → Ga → Prop := fun xs Γ => Wp (Res.ofO (f x xs) Γ) P E
theorem kMb_ {f : D → List D → Option D} {x : D} {P : D → Ga → Prop} {E : EX} {xs : List D} {Γ : Ga} : kMb f x P E xs Γ = (Wp (Res.ofO (f x xs) Γ) P E) := (rfl)
def kM (f : D → List D → Option D) (as : DA) (P : D → Ga → Prop) (E : EX) : D → Ga → Prop := fun x Γ => Wp (as Γ) (kMb f x P E) E
theorem kM_ {f : D → List D → Option D} {as : DA} {P : D → Ga → Prop} {E : EX} {x : D} {Γ : Ga} : kM f as P E x Γ = (Wp (as Γ) (kMb f x P E) E) := (rfl)
theorem w_M {f : D → List D → Option D} {a : DE} {as : DA} : Wp (dM f a as Γ) P E = Wp (a Γ) (kM f as P E) E := by unfold dM; rw [w_bind]; exact w_ext fun _ _ => w_bind
theorem w_aNil : Wp (daNil Γ) PL E = PL [] Γ := (rfl)
def kaCb (x : D) (PL : List D → Ga → Prop) : List D → Ga → Prop := fun xs Γ => PL (x :: xs) Γ
theorem kaCb_ {x : D} {PL : List D → Ga → Prop} {xs : List D} {Γ : Ga} : kaCb x PL xs Γ = (PL (x :: xs) Γ) := (rfl)
def kaC (as : DA) (PL : List D → Ga → Prop) (E : EX) : D → Ga → Prop := fun x Γ => Wp (as Γ) (kaCb x PL) E
theorem kaC_ {as : DA} {PL : List D → Ga → Prop} {E : EX} {x : D} {Γ : Ga} : kaC as PL E x Γ = (Wp (as Γ) (kaCb x PL) E) := (rfl)
theorem w_aCons {a : DE} {as : DA} : Wp (daCons a as Γ) PL E = Wp (a Γ) (kaC as PL E) E := by unfold daCons; rw [w_bind]; exact w_ext fun _ _ => w_bind
theorem w_oNo : Wp (doNo Γ) PI E = PI none Γ := (rfl)
def koAt (PI : Option Int → Ga → Prop) : D → Ga → Prop := fun d Γ => match d with
  | .int i => PI (some i) Γ
  | _ => False
theorem koAt_i {i : Int} : koAt PI (.int i) Γ = PI (some i) Γ := (rfl)
theorem w_oAt {a : DE} : Wp (doAt a Γ) PI E = Wp (a Γ) (koAt PI) E := by unfold doAt; rw [w_bind]; exact w_ext fun d _ => by cases d <;> rfl
def kSlc (f : D → Option Int → Option Int → Option D) (x : D) (lo : Option Int) (P : D → Ga → Prop) (E : EX) : Option Int → Ga → Prop := fun hi Γ => Wp (Res.ofO (f x lo hi) Γ) P E
theorem kSlc_ {f : D → Option Int → Option Int → Option D} {x : D} {lo : Option Int} {P : D → Ga → Prop} {E : EX} {hi : Option Int} {Γ : Ga} : kSlc f x lo P E hi Γ = (Wp (Res.ofO (f x lo hi) Γ) P E) := (rfl)
def kSlb (f : D → Option Int → Option Int → Option D) (u : DO) (x : D) (P : D → Ga → Prop) (E : EX) : Option Int → Ga → Prop := fun lo Γ => Wp (u Γ) (kSlc f x lo P E) E
theorem kSlb_ {f : D → Option Int → Option Int → Option D} {u : DO} {x : D} {P : D → Ga → Prop} {E : EX} {lo : Option Int} {Γ : Ga} : kSlb f u x P E lo Γ = (Wp (u Γ) (kSlc f x lo P E) E) := (rfl)
def kSl (f : D → Option Int → Option Int → Option D) (l u : DO) (P : D → Ga → Prop) (E : EX) : D → Ga → Prop := fun x Γ => Wp (l Γ) (kSlb f u x P E) E
theorem kSl_ {f : D → Option Int → Option Int → Option D} {l u : DO} {P : D → Ga → Prop} {E : EX} {x : D} {Γ : Ga} : kSl f l u P E x Γ = (Wp (l Γ) (kSlb f u x P E) E) := (rfl)
theorem w_Sl {f : D → Option Int → Option Int → Option D} {a : DE} {l u : DO} : Wp (dSl f a l u Γ) P E = Wp (a Γ) (kSl f l u P E) E := by unfold dSl; rw [w_bind]; exact w_ext fun _ _ => by rw [w_bind]; exact w_ext fun _ _ => w_bind
def ktB (PB : Bool → Ga → Prop) (E : EX) : D → Ga → Prop := fun d Γ => Wp (Res.ofO d.bl? Γ) PB E
theorem ktB_ {PB : Bool → Ga → Prop} {E : EX} {d : D} {Γ : Ga} : ktB PB E d Γ = (Wp (Res.ofO d.bl? Γ) PB E) := (rfl)
theorem w_tB {a : DE} : Wp (dtB a Γ) PB E = Wp (a Γ) (ktB PB E) E := w_bind
theorem bl_bl {b : Bool} : (D.bl b).bl? = some b := (rfl)
def ktT (PB : Bool → Ga → Prop) (E : EX) : D → Ga → Prop := fun d Γ => Wp (Res.ofO d.truth Γ) PB E
theorem ktT_ {PB : Bool → Ga → Prop} {E : EX} {d : D} {Γ : Ga} : ktT PB E d Γ = (Wp (Res.ofO d.truth Γ) PB E) := (rfl)
theorem w_tTr {a : DE} : Wp (dtTr a Γ) PB E = Wp (a Γ) (ktT PB E) E := w_bind
def ktAnd (b : DT) (PB : Bool → Ga → Prop) (E : EX) : Bool → Ga → Prop := fun k Γ => (k = true → Wp (b Γ) PB E) ∧ (k = false → PB false Γ)
theorem ktAnd_ {b : DT} {PB : Bool → Ga → Prop} {E : EX} {k : Bool} : ktAnd b PB E k Γ = ((k = true → Wp (b Γ) PB E) ∧ (k = false → PB false Γ)) := (rfl)
theorem w_tAnd {a b : DT} : Wp (dtAnd a b Γ) PB E = Wp (a Γ) (ktAnd b PB E) E := by unfold dtAnd; rw [w_bind]; exact w_ext fun k _ => by cases k <;> simp [ktAnd, Wp]
def ktOr (b : DT) (PB : Bool → Ga → Prop) (E : EX) : Bool → Ga → Prop := fun k Γ => (k = true → PB true Γ) ∧ (k = false → Wp (b Γ) PB E)
theorem ktOr_ {b : DT} {PB : Bool → Ga → Prop} {E : EX} {k : Bool} : ktOr b PB E k Γ = ((k = true → PB true Γ) ∧ (k = false → Wp (b Γ) PB E)) := (rfl)
theorem w_tOr {a b : DT} : Wp (dtOr a b Γ) PB E = Wp (a Γ) (ktOr b PB E) E := by unfold dtOr; rw [w_bind]; exact w_ext fun k _ => by cases k <;> simp [ktOr, Wp]
def ktNot (PB : Bool → Ga → Prop) : Bool → Ga → Prop := fun k Γ => PB (!k) Γ
theorem ktNot_ {PB : Bool → Ga → Prop} {k : Bool} {Γ : Ga} : ktNot PB k Γ = (PB (!k) Γ) := (rfl)
theorem w_tNot {a : DT} : Wp (dtNot a Γ) PB E = Wp (a Γ) (ktNot PB) E := w_bind
theorem w_tYes : Wp (dtYes Γ) PB E = PB true Γ := (rfl)
def kIf (a : DE) (b : DE) (P : D → Ga → Prop) (E : EX) : Bool → Ga → Prop := fun k Γ => (k = true → Wp (a Γ) P E) ∧ (k = false → Wp (b Γ) P E)
theorem kIf_ {a : DE} {b : DE} {P : D → Ga → Prop} {E : EX} {k : Bool} : kIf a b P E k Γ = ((k = true → Wp (a Γ) P E) ∧ (k = false → Wp (b Γ) P E)) := (rfl)
theorem w_If {c : DT} {a b : DE} : Wp (dIf c a b Γ) P E = Wp (c Γ) (kIf a b P E) E := by unfold dIf; rw [w_bind]; exact w_ext fun k _ => by cases k <;> simp [kIf, Wp]
def kAnd (b : DE) (P : D → Ga → Prop) (E : EX) : D → Ga → Prop := fun d Γ => match d with
  | .bl k => (k = true → Wp (b Γ) P E) ∧ (k = false → P (.bl false) Γ)
  | _ => False
def kOr (b : DE) (P : D → Ga → Prop) (E : EX) : D → Ga → Prop := fun d Γ => match d with
  | .bl k => (k = true → P (.bl true) Γ) ∧ (k = false → Wp (b Γ) P E)
  | _ => False
theorem kAnd_b {b : DE} {k : Bool} : kAnd b P E (.bl k) Γ = ((k = true → Wp (b Γ) P E) ∧ (k = false → P (.bl false) Γ)) := (rfl)
theorem kOr_b {b : DE} {k : Bool} : kOr b P E (.bl k) Γ = ((k = true → P (.bl true) Γ) ∧ (k = false → Wp (b Γ) P E)) := (rfl)
theorem w_And {a b : DE} : Wp (dAnd a b Γ) P E = Wp (a Γ) (kAnd b P E) E := by
  unfold dAnd
  rw [w_bind]
  refine w_ext fun d _ => ?_
  cases d with
  | bl k => cases k <;> simp [kAnd, Wp]
  | _ => rfl
theorem w_Or {a b : DE} : Wp (dOr a b Γ) P E = Wp (a Γ) (kOr b P E) E := by
  unfold dOr
  rw [w_bind]
  refine w_ext fun d _ => ?_
  cases d with
  | bl k => cases k <;> simp [kOr, Wp]
  | _ => rfl
theorem set_self {i : Nat} {s : Sl} (h : Γ[i]? = some s) : Γ.set i s = Γ := by
  apply List.ext_getElem?
  intro j
  by_cases e : i = j
  · subst e
    have hl : i < Γ.length := (List.getElem?_eq_some_iff.mp h).1
    rw [List.getElem?_set_self hl, h]
  · rw [List.getElem?_set_ne e]
/-- lent tests -/
def ktL (PB : Bool → Ga → Prop) (Γ : Ga) : Bool → Ga → Prop := fun r _ => PB r Γ
def lentT (s : Option Sl) (i : Nat) (a : DT) (PB : Bool → Ga → Prop) (Γ : Ga) : Prop := match s with
  | some (.ow _ o) => ∃ d, o.d = some d ∧ Wp (a (Γ.set i (.fz d))) (ktL PB Γ) nE
  | some (.fz _) => Wp (a Γ) (ktL PB Γ) nE
  | _ => False
def kbL (P : D → Ga → Prop) (Γ : Ga) : D → Ga → Prop := fun r _ => r.flat = true ∧ P r Γ
def kbF (P : D → Ga → Prop) (Γ : Ga) : D → Ga → Prop := fun r _ => P r Γ
def lentB (s : Option Sl) (i : Nat) (a : DE) (P : D → Ga → Prop) (Γ : Ga) : Prop := match s with
  | some (.ow _ o) => ∃ d, o.d = some d ∧ Wp (a (Γ.set i (.fz d))) (kbL P Γ) nE
  | some (.fz _) => Wp (a Γ) (kbF P Γ) nE
  | _ => False
theorem ktL_ {r : Bool} {Γ1 : Ga} : ktL PB Γ r Γ1 = PB r Γ := (rfl)
theorem kbL_ {r : D} {Γ1 : Ga} : kbL P Γ r Γ1 = (r.flat = true ∧ P r Γ) := (rfl)
theorem kbF_ {r : D} {Γ1 : Ga} : kbF P Γ r Γ1 = P r Γ := (rfl)
theorem lentT_o {t : Option Nat} {o : O} {i : Nat} {a : DT} : lentT (some (.ow t o)) i a PB Γ = ∃ d, o.d = some d ∧ Wp (a (Γ.set i (.fz d))) (ktL PB Γ) nE := (rfl)
theorem lentT_f {d : D} {i : Nat} {a : DT} : lentT (some (.fz d)) i a PB Γ = Wp (a Γ) (ktL PB Γ) nE := (rfl)
theorem lentB_o {t : Option Nat} {o : O} {i : Nat} {a : DE} : lentB (some (.ow t o)) i a P Γ = ∃ d, o.d = some d ∧ Wp (a (Γ.set i (.fz d))) (kbL P Γ) nE := (rfl)
theorem lentB_f {d : D} {i : Nat} {a : DE} : lentB (some (.fz d)) i a P Γ = Wp (a Γ) (kbF P Γ) nE := (rfl)
theorem w_tBor {i : Nat} {a : DT} : Wp (dtBor i a Γ) PB E = lentT Γ[i]? i a PB Γ := by
  unfold dtBor lentT
  cases e : Γ[i]? with
  | none => rfl
  | some s =>
    cases s with
    | no => rfl
    | fz d => simp only; cases a Γ <;> rfl
    | ow t o =>
      simp only
      cases q : o.d with
      | none => simp [Wp]
      | some d =>
        simp only [Option.some.injEq, exists_eq_left']
        cases a (Γ.set i (.fz d)) with
        | ok r Γ1 => rfl
        | _ => rfl
theorem w_Bor {i : Nat} {a : DE} : Wp (dBor i a Γ) P E = lentB Γ[i]? i a P Γ := by
  unfold dBor lentB
  cases e : Γ[i]? with
  | none => rfl
  | some s =>
    cases s with
    | no => rfl
    | fz d => simp only; cases a Γ <;> rfl
    | ow t o =>
      simp only
      cases q : o.d with
      | none => simp [Wp]
      | some d =>
        simp only [Option.some.injEq, exists_eq_left']
        cases a (Γ.set i (.fz d)) with
        | ok r Γ1 => by_cases h : r.flat = true <;> simp [Wp, kbL, h]
        | _ => rfl
theorem flat_int {i : Int} : (D.int i).flat = true := by simp only [D.flat]
theorem flat_bl {i : Bool} : (D.bl i).flat = true := by simp only [D.flat]
theorem flat_str {i : Str} : (D.str i).flat = true := by simp only [D.flat]
theorem flat_non : D.non.flat = true := by simp only [D.flat]
/-! statements -/
def kS (b : DS) (PS : Fl → Ga → Prop) (E : EX) : Fl → Ga → Prop := fun f Γ => match f with
  | .nx => Wp (b Γ) PS E
  | f => PS f Γ
theorem kS_nx {b : DS} : kS b PS E .nx Γ = Wp (b Γ) PS E := (rfl)
theorem kS_bk {b : DS} : kS b PS E .bk Γ = PS .bk Γ := (rfl)
theorem kS_ct {b : DS} : kS b PS E .ct Γ = PS .ct Γ := (rfl)
theorem kS_rt {b : DS} {o : O} : kS b PS E (.rt o) Γ = PS (.rt o) Γ := (rfl)
theorem w_Seq {a b : DS} : Wp (dSeq a b Γ) PS E = Wp (a Γ) (kS b PS E) E := by unfold dSeq; rw [w_bind]; exact w_ext fun f _ => by cases f <;> rfl
def kJ (b : DE) (P : D → Ga → Prop) (E : EX) : D → Ga → Prop := fun d Γ => match d with
  | .str s => Wp (b Γ) (k2b oJoin (.str s) P E) E
  | _ => False
theorem kJ_s {b : DE} {s : Str} : kJ b P E (.str s) Γ = Wp (b Γ) (k2b oJoin (.str s) P E) E := (rfl)
theorem w_J {a b : DE} : Wp (dJoin a b Γ) P E = Wp (a Γ) (kJ b P E) E := by unfold dJoin; rw [w_bind]; exact w_ext fun d _ => by cases d <;> first | exact w_bind | rfl
theorem w_Nx : Wp (dNx Γ) PS E = PS .nx Γ := (rfl)
theorem w_Bk : Wp (dBk Γ) PS E = PS .bk Γ := (rfl)
theorem w_Ct : Wp (dCt Γ) PS E = PS .ct Γ := (rfl)
def kSet (i : Nat) (PS : Fl → Ga → Prop) : D → Ga → Prop := fun d Γ => PS .nx (Γ.set i (.fz d))
theorem kSet_ {i : Nat} {PS : Fl → Ga → Prop} {d : D} {Γ : Ga} : kSet i PS d Γ = (PS .nx (Γ.set i (.fz d))) := (rfl)
theorem w_Set {i : Nat} {a : DE} : Wp (dSet i a Γ) PS E = Wp (a Γ) (kSet i PS) E := w_bind
def kAugb (i : Nat) (PS : Fl → Ga → Prop) : D → Ga → Prop := fun d Γ => PS .nx (Γ.set i (.fz d))
theorem kAugb_ {i : Nat} {PS : Fl → Ga → Prop} {d : D} {Γ : Ga} : kAugb i PS d Γ = (PS .nx (Γ.set i (.fz d))) := (rfl)
def kAugc (i : Nat) (f : D → D → Option D) (x : D) (PS : Fl → Ga → Prop) (E : EX) : D → Ga → Prop := fun y Γ => Wp (Res.ofO (f x y) Γ) (kAugb i PS) E
theorem kAugc_ {i : Nat} {f : D → D → Option D} {x : D} {PS : Fl → Ga → Prop} {E : EX} {y : D} {Γ : Ga} : kAugc i f x PS E y Γ = (Wp (Res.ofO (f x y) Γ) (kAugb i PS) E) := (rfl)
def kAug (i : Nat) (f : D → D → Option D) (a : DE) (PS : Fl → Ga → Prop) (E : EX) : D → Ga → Prop := fun x Γ => Wp (a Γ) (kAugc i f x PS E) E
theorem kAug_ {i : Nat} {f : D → D → Option D} {a : DE} {PS : Fl → Ga → Prop} {E : EX} {x : D} {Γ : Ga} : kAug i f a PS E x Γ = (Wp (a Γ) (kAugc i f x PS E) E) := (rfl)
theorem w_Aug {i : Nat} {f : D → D → Option D} {a : DE} : Wp (dAug i f a Γ) PS E = vAt Γ[i]? (kAug i f a PS E) Γ := by
  unfold dAug vAt
  cases e : Γ[i]? with
  | none => rfl
  | some s =>
    cases s with
    | fz d => simp only; rw [w_bind]; exact w_ext fun y _ => w_bind
    | _ => rfl
def kParb (i j : Nat) (x : D) (PS : Fl → Ga → Prop) : D → Ga → Prop := fun y Γ => PS .nx ((Γ.set i (.fz x)).set j (.fz y))
theorem kParb_ {i j : Nat} {x : D} {PS : Fl → Ga → Prop} {y : D} {Γ : Ga} : kParb i j x PS y Γ = (PS .nx ((Γ.set i (.fz x)).set j (.fz y))) := (rfl)
def kPar (i j : Nat) (b : DE) (PS : Fl → Ga → Prop) (E : EX) : D → Ga → Prop := fun x Γ => Wp (b Γ) (kParb i j x PS) E
theorem kPar_ {i j : Nat} {b : DE} {PS : Fl → Ga → Prop} {E : EX} {x : D} {Γ : Ga} : kPar i j b PS E x Γ = (Wp (b Γ) (kParb i j x PS) E) := (rfl)
theorem w_Par {i j : Nat} {a b : DE} : Wp (dPar i j a b Γ) PS E = Wp (a Γ) (kPar i j b PS E) E := by unfold dPar; rw [w_bind]; exact w_ext fun _ _ => w_bind
def gAt (o : Option Ga) (k : Ga → Prop) : Prop := match o with
  | some Γ => k Γ
  | none => False
theorem gAt_some {k : Ga → Prop} : gAt (some Γ) k = k Γ := (rfl)
def kAsg (g : DG) (PS : Fl → Ga → Prop) : D → Ga → Prop := fun d Γ => gAt (g d Γ) (PS .nx)
theorem kAsg_ {g : DG} {PS : Fl → Ga → Prop} {d : D} {Γ : Ga} : kAsg g PS d Γ = (gAt (g d Γ) (PS .nx)) := (rfl)
theorem w_Asg {g : DG} {a : DE} : Wp (dAsg g a Γ) PS E = Wp (a Γ) (kAsg g PS) E := by unfold dAsg; rw [w_bind]; exact w_ext fun d Γ => by unfold kAsg; cases g d Γ <;> rfl
def kDrop (PS : Fl → Ga → Prop) : D → Ga → Prop := fun d Γ => PS .nx Γ
theorem kDrop_ {PS : Fl → Ga → Prop} {d : D} {Γ : Ga} : kDrop PS d Γ = (PS .nx Γ) := (rfl)
theorem w_Drop {a : DE} : Wp (dDrop a Γ) PS E = Wp (a Γ) (kDrop PS) E := w_bind
def kRet (PS : Fl → Ga → Prop) : D → Ga → Prop := fun d Γ => PS (.rt (.fz d)) Γ
theorem kRet_ {PS : Fl → Ga → Prop} {d : D} {Γ : Ga} : kRet PS d Γ = (PS (.rt (.fz d)) Γ) := (rfl)
theorem w_Ret {a : DE} : Wp (dRet a Γ) PS E = Wp (a Γ) (kRet PS) E := w_bind
theorem w_RetN : Wp (dRetN Γ) PS E = PS (.rt (.fz .non)) Γ := (rfl)
def kIfS (a : DS) (b : DS) (PS : Fl → Ga → Prop) (E : EX) : Bool → Ga → Prop := fun k Γ => (k = true → Wp (a Γ) PS E) ∧ (k = false → Wp (b Γ) PS E)
theorem kIfS_ {a : DS} {b : DS} {PS : Fl → Ga → Prop} {E : EX} {k : Bool} : kIfS a b PS E k Γ = ((k = true → Wp (a Γ) PS E) ∧ (k = false → Wp (b Γ) PS E)) := (rfl)
theorem w_IfS {c : DT} {a b : DS} : Wp (dIfS c a b Γ) PS E = Wp (c Γ) (kIfS a b PS E) E := by unfold dIfS; rw [w_bind]; exact w_ext fun k _ => by cases k <;> simp [kIfS, Wp]
def appAt (s : Option Sl) (i : Nat) (a : DE) (PS : Fl → Ga → Prop) (E : EX) (Γ : Ga) : Prop := match s with
  | some (.ow _ (.ol _)) => Wp (a Γ) (fun d Γ => match Γ[i]? with
    | some (.ow t (.ol os)) => sizeOk os.length = true ∧ PS .nx (Γ.set i (.ow t (.ol (os ++ [.fz d]))))
    | _ => False) E
  | _ => False
def kApp2 (s : Option Sl) (i : Nat) (d : D) (PS : Fl → Ga → Prop) (Γ : Ga) : Prop := match s with
    | some (.ow t (.ol os)) => sizeOk os.length = true ∧ PS .nx (Γ.set i (.ow t (.ol (os ++ [.fz d]))))
    | _ => False
def kApp (i : Nat) (PS : Fl → Ga → Prop) : D → Ga → Prop := fun d Γ => kApp2 Γ[i]? i d PS Γ
theorem kApp_ {i : Nat} {d : D} : kApp i PS d Γ = kApp2 Γ[i]? i d PS Γ := (rfl)
theorem kApp2_ {i : Nat} {d : D} {t : Option Nat} {os : List O} : kApp2 (some (.ow t (.ol os))) i d PS Γ = (sizeOk os.length = true ∧ PS .nx (Γ.set i (.ow t (.ol (os ++ [.fz d]))))) := (rfl)
theorem appAt_ {i : Nat} {a : DE} {t : Option Nat} {os : List O} : appAt (some (.ow t (.ol os))) i a PS E Γ = Wp (a Γ) (kApp i PS) E := (rfl)
theorem w_App {i : Nat} {a : DE} : Wp (dApp i a Γ) PS E = appAt Γ[i]? i a PS E Γ := by
  unfold dApp appAt
  cases e : Γ[i]? with
  | none => rfl
  | some s =>
    cases s with
    | no => rfl
    | fz d => rfl
    | ow t o =>
      cases o <;> try rfl
      simp only
      rw [w_bind]
      refine w_ext fun d Γ1 => ?_
      cases e2 : Γ1[i]? with
      | none => rfl
      | some s2 =>
        cases s2 with
        | no => rfl
        | fz d => rfl
        | ow t2 o2 =>
          cases o2 <;> try rfl
          rename_i os2
          simp only
          by_cases h : sizeOk os2.length = true <;> simp [h, Wp]
def putAt (s : Option Sl) (i : Nat) (k : DE) (d : D) (PS : Fl → Ga → Prop) (E : EX) (Γ : Ga) : Prop := match s with
  | some (.ow _ (.ol _)) => Wp (k Γ) (fun j Γ => match j with
    | .int n => (match Γ[i]? with
      | some (.ow t (.ol os)) => ∃ p, ixN os.length n = some p ∧ PS .nx (Γ.set i (.ow t (.ol (os.set p (.fz d)))))
      | _ => False)
    | _ => False) E
  | _ => False
def kPut3 (s : Option Sl) (i : Nat) (n : Int) (d : D) (PS : Fl → Ga → Prop) (Γ : Ga) : Prop := match s with
      | some (.ow t (.ol os)) => ∃ p, ixN os.length n = some p ∧ PS .nx (Γ.set i (.ow t (.ol (os.set p (.fz d)))))
      | _ => False
def kPut2 (i : Nat) (d : D) (PS : Fl → Ga → Prop) : D → Ga → Prop := fun j Γ => match j with
    | .int n => kPut3 Γ[i]? i n d PS Γ
    | _ => False
def kPut (i : Nat) (k : DE) (PS : Fl → Ga → Prop) (E : EX) : D → Ga → Prop := fun d Γ => putAt Γ[i]? i k d PS E Γ
theorem kPut_ {i : Nat} {k : DE} {d : D} : kPut i k PS E d Γ = putAt Γ[i]? i k d PS E Γ := (rfl)
theorem putAt_ {i : Nat} {k : DE} {d : D} {t : Option Nat} {os : List O} : putAt (some (.ow t (.ol os))) i k d PS E Γ = Wp (k Γ) (kPut2 i d PS) E := by unfold putAt; exact w_ext fun j _ => by cases j <;> rfl
theorem kPut2_ {i : Nat} {d : D} {n : Int} : kPut2 i d PS (.int n) Γ = kPut3 Γ[i]? i n d PS Γ := (rfl)
theorem kPut3_ {i : Nat} {d : D} {n : Int} {t : Option Nat} {os : List O} : kPut3 (some (.ow t (.ol os))) i n d PS Γ = ∃ p, ixN os.length n = some p ∧ PS .nx (Γ.set i (.ow t (.ol (os.set p (.fz d))))) := (rfl)
theorem w_Put {i : Nat} {k a : DE} : Wp (dPut i k a Γ) PS E = Wp (a Γ) (kPut i k PS E) E := by
  unfold dPut
  rw [w_bind]
  refine w_ext fun d Γ1 => ?_
  unfold kPut putAt
  cases e : Γ1[i]? with
  | none => rfl
  | some s =>
    cases s with
    | no => rfl
    | fz d => rfl
    | ow t o =>
      cases o <;> try rfl
      simp only
      rw [w_bind]
      refine w_ext fun j Γ2 => ?_
      cases j <;> try rfl
      simp only
      cases e : Γ2[i]? with
      | none => rfl
      | some s =>
        cases s with
        | no => rfl
        | fz d => rfl
        | ow t o =>
          cases o <;> try rfl
          rename_i jj os2
          cases q : ixN os2.length jj <;> simp [Wp, q]
theorem w_Frz {i : Nat} {a : Ga → Res α} {P : α → Ga → Prop} : Wp (dFrz i a Γ) P E = gAt (frz i Γ) (fun Γ => Wp (a Γ) P E) := by unfold dFrz gAt; cases frz i Γ <;> rfl
def frz1 (s : Option Sl) (Γ : Ga) (i : Nat) : Option Ga := match s with
  | some (.ow _ o) => (o.d).map fun d => Γ.set i (.fz d)
  | some (.fz _) => some Γ
  | _ => none
theorem frz_eq {i : Nat} : frz i Γ = frz1 Γ[i]? Γ i := (rfl)
theorem frz1_ow {i : Nat} {t : Option Nat} {o : O} : frz1 (some (.ow t o)) Γ i = (o.d).map fun d => Γ.set i (.fz d) := (rfl)
theorem frz1_fz {i : Nat} {d : D} : frz1 (some (.fz d)) Γ i = some Γ := (rfl)
def kSetO (i : Nat) (PS : Fl → Ga → Prop) : O → Ga → Prop := fun o Γ => PS .nx (Γ.set i (.ow none o))
theorem kSetO_ {i : Nat} {PS : Fl → Ga → Prop} {o : O} {Γ : Ga} : kSetO i PS o Γ = (PS .nx (Γ.set i (.ow none o))) := (rfl)
theorem w_SetO {i : Nat} {a : DOw} : Wp (dSetO i a Γ) PS E = Wp (a Γ) (kSetO i PS) E := w_bind
def kUp (PO : O → Ga → Prop) : D → Ga → Prop := fun d Γ => PO (.fz d) Γ
theorem kUp_ {PO : O → Ga → Prop} {d : D} {Γ : Ga} : kUp PO d Γ = (PO (.fz d) Γ) := (rfl)
theorem w_Up {a : DE} : Wp (dUp a Γ) PO E = Wp (a Γ) (kUp PO) E := w_bind
def kO (f : List D → Option O) (PO : O → Ga → Prop) (E : EX) : List D → Ga → Prop := fun ds Γ => Wp (Res.ofO (f ds) Γ) PO E
theorem kO_ {f : List D → Option O} {PO : O → Ga → Prop} {E : EX} {ds : List D} {Γ : Ga} : kO f PO E ds Γ = (Wp (Res.ofO (f ds) Γ) PO E) := (rfl)
theorem w_O {f : List D → Option O} {a : DA} : Wp (dO f a Γ) PO E = Wp (a Γ) (kO f PO E) E := w_bind
def dAt (o : Option D) (P : D → Ga → Prop) (Γ : Ga) : Prop := match o with
  | some d => P d Γ
  | none => False
theorem dAt_ {d : D} : dAt (some d) P Γ = P d Γ := (rfl)
def kFz (P : D → Ga → Prop) : O → Ga → Prop := fun o Γ => dAt o.d P Γ
theorem kFz_ {P : D → Ga → Prop} {o : O} {Γ : Ga} : kFz P o Γ = (dAt o.d P Γ) := (rfl)
theorem w_Fz {a : DOw} : Wp (dFz a Γ) P E = Wp (a Γ) (kFz P) E := by
  unfold dFz
  cases a Γ with
  | ok o Γ1 =>
    show Wp (match o.d with | some d => .ok d Γ1 | none => .bad) P E = kFz P o Γ1
    unfold kFz
    cases o.d <;> rfl
  | _ => rfl
def rAt (s : Option Sl) (k : O → Ga → Prop) (Γ : Ga) : Prop := match s with
  | some (.ow _ o) => k o Γ
  | _ => False
theorem rAt_ow {t : Option Nat} {o : O} {k : O → Ga → Prop} : rAt (some (.ow t o)) k Γ = k o Γ := (rfl)
def kRetO (i : Nat) (PS : Fl → Ga → Prop) : O → Ga → Prop := fun o Γ => PS (.rt o) (Γ.set i .no)
theorem kRetO_ {i : Nat} {PS : Fl → Ga → Prop} {o : O} {Γ : Ga} : kRetO i PS o Γ = (PS (.rt o) (Γ.set i .no)) := (rfl)
theorem w_RetO {i : Nat} : Wp (dRetO i Γ) PS E = rAt Γ[i]? (kRetO i PS) Γ := by
  unfold dRetO rAt
  cases e : Γ[i]? with
  | none => rfl
  | some s => cases s <;> rfl
def fEnd (as : Ga) (PO : O → Ga → Prop) (f : Fl) (Γ : Ga) : Prop := match f with
    | .rt o => gAt (outs 0 as Γ) (PO o)
    | .nx => gAt (outs 0 as Γ) (PO (.fz .non))
    | _ => False
theorem fEnd_rt {as : Ga} {o : O} : fEnd as PO (.rt o) Γ = gAt (outs 0 as Γ) (PO o) := (rfl)
theorem fEnd_nx {as : Ga} : fEnd as PO .nx Γ = gAt (outs 0 as Γ) (PO (.fz .non)) := (rfl)
theorem w_Fn {n : Nat} {body : DS} : Wp (dFn n body Γ) PO nE = Wp (body (Γ ++ List.replicate n .no)) (fEnd Γ PO) nE := by
  unfold dFn
  cases body (Γ ++ List.replicate n .no) with
  | ok f Γ1 =>
    cases f with
    | rt o =>
      show Wp (match outs 0 Γ Γ1 with | some as' => .ok o as' | none => .bad) PO nE = gAt (outs 0 Γ Γ1) _
      cases outs 0 Γ Γ1 <;> rfl
    | nx =>
      show Wp (match outs 0 Γ Γ1 with | some as' => .ok (.fz .non) as' | none => .bad) PO nE = gAt (outs 0 Γ Γ1) _
      cases outs 0 Γ Γ1 <;> rfl
    | _ => rfl
  | ex x Γ1 =>
    show Wp (match outs 0 Γ Γ1 with | some as' => .ex x as' | none => .bad) PO nE = False
    cases outs 0 Γ Γ1 <;> rfl
  | bad => rfl
theorem w_toP {n k : Nat} {body : DS} {ds : List D} {d : D} (hn : ds.length = n) (h : Wp (dFn k body (ds.map Sl.fz)) (fun o _ => o = .fz d) nE) : toP n (dFn k body) ds = some d := by
  obtain ⟨o, Γ, e, rfl⟩ := w_val h
  unfold toP
  rw [if_pos hn, e]
theorem w_noEx {f : DOw} : Wp (noEx f Γ) PO E = Wp (f Γ) PO nE := by unfold noEx; cases f Γ <;> rfl
theorem w_arNil : Wp (arNil Γ) PA E = PA [] Γ := (rfl)
def karb (x : D) (PA : List Ar → Ga → Prop) : List Ar → Ga → Prop := fun xs Γ => PA (.fz x :: xs) Γ
theorem karb_ {x : D} {PA : List Ar → Ga → Prop} {xs : List Ar} {Γ : Ga} : karb x PA xs Γ = (PA (.fz x :: xs) Γ) := (rfl)
def kar (as : DAr) (PA : List Ar → Ga → Prop) (E : EX) : D → Ga → Prop := fun x Γ => Wp (as Γ) (karb x PA) E
theorem kar_ {as : DAr} {PA : List Ar → Ga → Prop} {E : EX} {x : D} {Γ : Ga} : kar as PA E x Γ = (Wp (as Γ) (karb x PA) E) := (rfl)
theorem w_arCons {a : DE} {as : DAr} : Wp (arCons a as Γ) PA E = Wp (a Γ) (kar as PA E) E := by unfold arCons; rw [w_bind]; exact w_ext fun _ _ => w_bind
def kasb (i : Nat) (PA : List Ar → Ga → Prop) : List Ar → Ga → Prop := fun xs Γ => PA (.sl i :: xs) Γ
theorem kasb_ {i : Nat} {PA : List Ar → Ga → Prop} {xs : List Ar} {Γ : Ga} : kasb i PA xs Γ = (PA (.sl i :: xs) Γ) := (rfl)
def kas (i : Nat) (as : DAr) (PA : List Ar → Ga → Prop) (E : EX) : O → Ga → Prop := fun o Γ => Wp (as Γ) (kasb i PA) E
theorem kas_ {i : Nat} {as : DAr} {PA : List Ar → Ga → Prop} {E : EX} {o : O} {Γ : Ga} : kas i as PA E o Γ = (Wp (as Γ) (kasb i PA) E) := (rfl)
theorem w_arSlot {i : Nat} {as : DAr} : Wp (arSlot i as Γ) PA E = rAt Γ[i]? (kas i as PA E) Γ := by
  unfold arSlot rAt
  cases e : Γ[i]? with
  | none => rfl
  | some s =>
    cases s with
    | ow t o => exact w_bind
    | _ => rfl
def callAt (x : Option (Ga × Ga)) (f : DOw) (k : Ga → O → Ga → Prop) : Prop := match x with
  | some x => Wp (f x.1) (k x.2) nE
  | none => False
theorem callAt_ {a b : Ga} {f : DOw} {k : Ga → O → Ga → Prop} : callAt (some (a, b)) f k = Wp (f a) (k b) nE := (rfl)
def kBack (as : List Ar) (Γ1 : Ga) (PO : O → Ga → Prop) : Ga → O → Ga → Prop := fun Γ2 o xs => gAt (push as Γ1 xs Γ2) (PO o)
theorem kBack_ {as : List Ar} {Γ1 Γ2 xs : Ga} {o : O} : kBack as Γ1 PO Γ2 o xs = gAt (push as Γ1 xs Γ2) (PO o) := (rfl)
def kCall (f : DOw) (PO : O → Ga → Prop) : List Ar → Ga → Prop := fun as Γ => callAt (pull 0 as Γ) f (kBack as Γ PO)
theorem kCall_ {f : DOw} {PO : O → Ga → Prop} {as : List Ar} {Γ : Ga} : kCall f PO as Γ = (callAt (pull 0 as Γ) f (kBack as Γ PO)) := (rfl)
theorem w_Call {f : DOw} {a : DAr} : Wp (dCall f a Γ) PO nE = Wp (a Γ) (kCall f PO) nE := by
  unfold dCall
  rw [w_bind]
  refine w_ext fun as Γ1 => ?_
  unfold kCall callAt
  cases pull 0 as Γ1 with
  | none => rfl
  | some x =>
    simp only
    cases f x.1 with
    | ok o xs =>
      show Wp (match push as Γ1 xs x.2 with | some Γ3 => .ok o Γ3 | none => .bad) PO nE = gAt (push as Γ1 xs x.2) _
      cases push as Γ1 xs x.2 <;> rfl
    | ex e xs =>
      show Wp (match push as Γ1 xs x.2 with | some Γ3 => .ex e Γ3 | none => .bad) PO nE = False
      cases push as Γ1 xs x.2 <;> rfl
    | bad => rfl
theorem pull_nil {j : Nat} : pull j [] Γ = some ([], Γ) := (rfl)
theorem pull_fz {j : Nat} {d : D} {as : List Ar} : pull j (.fz d :: as) Γ = (pull (j + 1) as Γ).map fun x => (.fz d :: x.1, x.2) := (rfl)
def pull1 (s : Option Sl) (j i : Nat) (as : List Ar) (Γ : Ga) : Option (Ga × Ga) := match s with
  | some (.ow _ o) => (pull (j + 1) as (Γ.set i .no)).map fun x => (.ow (some j) o :: x.1, x.2)
  | _ => none
theorem pull_sl {j i : Nat} {as : List Ar} : pull j (.sl i :: as) Γ = pull1 Γ[i]? j i as Γ := (rfl)
theorem pull1_ow {j i : Nat} {as : List Ar} {t : Option Nat} {o : O} : pull1 (some (.ow t o)) j i as Γ = (pull (j + 1) as (Γ.set i .no)).map fun x => (.ow (some j) o :: x.1, x.2) := (rfl)
theorem push_nil {Γ0 : Ga} : push [] Γ0 [] Γ = some Γ := (rfl)
theorem push_fz {Γ0 xs : Ga} {d : D} {as : List Ar} {x : Sl} : push (.fz d :: as) Γ0 (x :: xs) Γ = push as Γ0 xs Γ := by cases x <;> rfl
def push1 (s0 s : Option Sl) (i : Nat) (o : O) (as : List Ar) (Γ0 xs Γ : Ga) : Option Ga := match s0 with
    | some (.ow t _) => (match s with
      | some .no => push as Γ0 xs (Γ.set i (.ow t o))
      | _ => none)
    | _ => none
theorem push_sl {Γ0 xs : Ga} {i : Nat} {as : List Ar} {t : Option Nat} {o : O} : push (.sl i :: as) Γ0 (.ow t o :: xs) Γ = push1 Γ0[i]? Γ[i]? i o as Γ0 xs Γ := (rfl)
theorem push1_ow {Γ0 xs : Ga} {i : Nat} {as : List Ar} {t : Option Nat} {o o2 : O} : push1 (some (.ow t o2)) (some .no) i o as Γ0 xs Γ = push as Γ0 xs (Γ.set i (.ow t o)) := (rfl)
theorem outs_nil {j : Nat} : outs j [] Γ = some [] := by cases j <;> rfl
theorem outs_f {j : Nat} {d : D} {as : Ga} {s : Sl} : outs j (.fz d :: as) (s :: Γ) = (outs (j + 1) as Γ).map (.fz d :: ·) := by cases s <;> rfl
theorem outs_o {j : Nat} {t t2 : Option Nat} {o o2 : O} {as : Ga} : outs j (.ow t2 o2 :: as) (.ow t o :: Γ) = if t = some j then (outs (j + 1) as Γ).map (.ow (some j) o :: ·) else none := rfl
/-! targets, loops -/
theorem gN_ap {i : Nat} {d : D} : gN i d Γ = some (Γ.set i (.fz d)) := (rfl)
theorem gTp_ap {n : Nat} {gs : DGs} {ds : List D} : gTp n gs (.tup ds) Γ = if ds.length = n then gs ds Γ else none := (rfl)
theorem gsNil_ap : gsNil [] Γ = some Γ := (rfl)
theorem gsCons_ap {g : DG} {gs : DGs} {d : D} {ds : List D} : gsCons g gs (d :: ds) Γ = (g d Γ).bind fun Γ => gs ds Γ := (rfl)
def kFor (g : DG) (body : DS) (PS : Fl → Ga → Prop) (E : EX) : List D → Ga → Prop := fun ds Γ => Wp (loopD g body ds Γ) PS E
theorem kFor_ {g : DG} {body : DS} {PS : Fl → Ga → Prop} {E : EX} {ds : List D} {Γ : Ga} : kFor g body PS E ds Γ = (Wp (loopD g body ds Γ) PS E) := (rfl)
theorem w_For {src : DI} {g : DG} {body : DS} : Wp (dFor src g body Γ) PS E = Wp (src Γ) (kFor g body PS E) E := w_bind
def kiR (f : List D → Option (List D)) (PL : List D → Ga → Prop) (E : EX) : List D → Ga → Prop := fun ds Γ => Wp (Res.ofO (f ds) Γ) PL E
theorem kiR_ {f : List D → Option (List D)} {PL : List D → Ga → Prop} {E : EX} {ds : List D} {Γ : Ga} : kiR f PL E ds Γ = (Wp (Res.ofO (f ds) Γ) PL E) := (rfl)
theorem w_iR {f : List D → Option (List D)} {a : DA} : Wp (diR f a Γ) PL E = Wp (a Γ) (kiR f PL E) E := w_bind
def kiS (PL : List D → Ga → Prop) : D → Ga → Prop := fun d Γ => match d with
  | .lst xs => PL xs Γ
  | .tup xs => PL xs Γ
  | _ => False
def kiE (PL : List D → Ga → Prop) : List D → Ga → Prop := fun ds Γ => match ds with
  | [.lst xs] => PL (numbered xs) Γ
  | [.tup xs] => PL (numbered xs) Γ
  | _ => False
theorem kiS_l {xs : List D} : kiS PL (.lst xs) Γ = PL xs Γ := (rfl)
theorem kiS_t {xs : List D} : kiS PL (.tup xs) Γ = PL xs Γ := (rfl)
theorem kiE_l {xs : List D} : kiE PL [.lst xs] Γ = PL (numbered xs) Γ := (rfl)
theorem kiE_t {xs : List D} : kiE PL [.tup xs] Γ = PL (numbered xs) Γ := (rfl)
def kiC (PL : List D → Ga → Prop) : D → Ga → Prop := fun d Γ => match d with
  | .str z => PL (signs z) Γ
  | _ => False
theorem kiC_s {z : Str} : kiC PL (.str z) Γ = PL (signs z) Γ := (rfl)
theorem w_iC {a : DE} : Wp (diC a Γ) PL E = Wp (a Γ) (kiC PL) E := by unfold diC; rw [w_bind]; exact w_ext fun d _ => by cases d <;> rfl
theorem w_iS {a : DE} : Wp (diS a Γ) PL E = Wp (a Γ) (kiS PL) E := by unfold diS; rw [w_bind]; exact w_ext fun d _ => by cases d <;> rfl
theorem w_iE {a : DA} : Wp (diE a Γ) PL E = Wp (a Γ) (kiE PL) E := by
  unfold diE; rw [w_bind]
  exact w_ext fun d _ => match d with
    | [] => rfl
    | [x] => by cases x <;> rfl
    | x :: y :: r => by cases x <;> rfl
theorem w_loop {g : DG} {body : DS} (Inv : List D → Ga → Prop) (step : ∀ d ds Γ, Inv (d :: ds) Γ → gAt (g d Γ) fun Γ1 => Wp (body Γ1) (fun f Γ2 => match f with
      | .nx => Inv ds Γ2
      | .ct => Inv ds Γ2
      | .bk => PS .nx Γ2
      | .rt o => PS (.rt o) Γ2) E) (last : ∀ Γ, Inv [] Γ → PS .nx Γ) : ∀ (ds : List D) (Γ : Ga), Inv ds Γ → Wp (loopD g body ds Γ) PS E
  | [], Γ, h => last Γ h
  | d :: ds, Γ, h => by
    have h1 := step d ds Γ h
    unfold loopD
    cases e : g d Γ with
    | none => rw [e] at h1; exact False.elim h1
    | some Γ1 =>
      rw [e] at h1
      simp only [w_bind]
      refine w_mono h1 fun f Γ2 h2 => ?_
      cases f with
      | nx => exact w_loop Inv step last ds Γ2 h2
      | ct => exact w_loop Inv step last ds Γ2 h2
      | bk => exact h2
      | rt o => exact h2
/-- one round of a loop -/
def kRnd (I : Ga → Prop) (PS : Fl → Ga → Prop) : Fl → Ga → Prop := fun f Γ2 => match f with
      | .nx => I Γ2
      | .ct => I Γ2
      | .bk => PS .nx Γ2
      | .rt o => PS (.rt o) Γ2
theorem kRnd_nx {I : Ga → Prop} : kRnd I PS .nx Γ = I Γ := (rfl)
theorem kRnd_ct {I : Ga → Prop} : kRnd I PS .ct Γ = I Γ := (rfl)
theorem kRnd_bk {I : Ga → Prop} : kRnd I PS .bk Γ = PS .nx Γ := (rfl)
theorem kRnd_rt {I : Ga → Prop} {o : O} : kRnd I PS (.rt o) Γ = PS (.rt o) Γ := (rfl)
theorem w_loopK {g : DG} {body : DS} (Inv : List D → Ga → Prop) {ds : List D} (h : Inv ds Γ) (step : ∀ d ds Γ, Inv (d :: ds) Γ → gAt (g d Γ) fun Γ1 => Wp (body Γ1) (kRnd (Inv ds) PS) E) (last : ∀ Γ, Inv [] Γ → PS .nx Γ) : Wp (loopD g body ds Γ) PS E :=
  w_loop Inv (fun d ds Γ h => by
    have := step d ds Γ h
    unfold gAt at this ⊢
    split at this
    · exact this
    · exact this) last ds Γ h
def kLcB (vs : List Nat) (P : D → Ga → Prop) (Γ1 : Ga) : List D → Ga → Prop := fun ys Γ2 => P (.lst ys) (backs vs 0 Γ1 Γ2)
def kLcBO (vs : List Nat) (PO : O → Ga → Prop) (Γ1 : Ga) : List D → Ga → Prop := fun ys Γ2 => PO (O.lf ys) (backs vs 0 Γ1 Γ2)
theorem kLcB_ {vs : List Nat} {Γ1 : Ga} {ys : List D} : kLcB vs P Γ1 ys Γ = P (.lst ys) (backs vs 0 Γ1 Γ) := (rfl)
theorem kLcBO_ {vs : List Nat} {Γ1 : Ga} {ys : List D} : kLcBO vs PO Γ1 ys Γ = PO (O.lf ys) (backs vs 0 Γ1 Γ) := (rfl)
def kLc (g : DG) (tt : DT) (te : DE) (vs : List Nat) (P : D → Ga → Prop) : List D → Ga → Prop := fun ds Γ1 => sizeOk ds.length = true ∧ Wp (lcL g tt te vs ds (nos vs Γ1)) (kLcB vs P Γ1) nE
theorem kLc_ {g : DG} {tt : DT} {te : DE} {vs : List Nat} {P : D → Ga → Prop} {ds : List D} {Γ1 : Ga} : kLc g tt te vs P ds Γ1 = (sizeOk ds.length = true ∧ Wp (lcL g tt te vs ds (nos vs Γ1)) (kLcB vs P Γ1) nE) := (rfl)
def kLcO (g : DG) (tt : DT) (te : DE) (vs : List Nat) (PO : O → Ga → Prop) : List D → Ga → Prop := fun ds Γ1 => sizeOk ds.length = true ∧ Wp (lcL g tt te vs ds (nos vs Γ1)) (kLcBO vs PO Γ1) nE
theorem kLcO_ {g : DG} {tt : DT} {te : DE} {vs : List Nat} {PO : O → Ga → Prop} {ds : List D} {Γ1 : Ga} : kLcO g tt te vs PO ds Γ1 = (sizeOk ds.length = true ∧ Wp (lcL g tt te vs ds (nos vs Γ1)) (kLcBO vs PO Γ1) nE) := (rfl)
theorem w_Lc {src : DI} {g : DG} {tt : DT} {te : DE} {vs : List Nat} : Wp (dLc src g tt te vs Γ) P E = Wp (src Γ) (kLc g tt te vs P) E := by
  unfold dLc lcG
  rw [w_bind, w_bind]
  refine w_ext fun ds Γ1 => ?_
  unfold kLc
  by_cases hz : sizeOk ds.length = true
  · simp only [hz, if_true, true_and]
    cases lcL g tt te vs ds (nos vs Γ1) <;> rfl
  · simp [hz, Wp]
theorem w_LcO {src : DI} {g : DG} {tt : DT} {te : DE} {vs : List Nat} : Wp (dLcO src g tt te vs Γ) PO E = Wp (src Γ) (kLcO g tt te vs PO) E := by
  unfold dLcO lcG
  rw [w_bind, w_bind]
  refine w_ext fun ds Γ1 => ?_
  unfold kLcO
  by_cases hz : sizeOk ds.length = true
  · simp only [hz, if_true, true_and]
    cases lcL g tt te vs ds (nos vs Γ1) <;> rfl
  · simp [hz, Wp]
/-- a comprehension, an invariant at each stage: Inv rest done -/
theorem w_lcL {g : DG} {tt : DT} {te : DE} {vs : List Nat} (Inv : List D → List D → Ga → Prop) (step : ∀ d ds ys Γ, Inv (d :: ds) ys Γ → gAt (g d Γ) fun Γ1 => Wp (tt Γ1) (fun b Γ2 => (b = true → Wp (te Γ2) (fun y Γ3 => Inv ds (ys ++ [y]) (nos vs Γ3)) nE) ∧ (b = false → Inv ds ys (nos vs Γ2))) nE) :
    ∀ (ds : List D) (ys : List D) (Γ : Ga) (PL : List D → Ga → Prop), (∀ zs Γ, Inv [] (ys ++ zs) Γ → PL zs Γ) → Inv ds ys Γ → Wp (lcL g tt te vs ds Γ) PL nE
  | [], ys, Γ, PL, k, h => k [] Γ (by rw [List.append_nil]; exact h)
  | d :: ds, ys, Γ, PL, k, h => by
    have h1 := step d ds ys Γ h
    unfold lcL
    cases e : g d Γ with
    | none => rw [e] at h1; exact False.elim h1
    | some Γ1 =>
      rw [e] at h1
      obtain ⟨b, Γ2, e2, h2, h3⟩ := w_val (show Wp (tt Γ1) _ nE from h1)
      simp only [e2]
      by_cases hb : b = true
      · obtain ⟨y, Γ3, e3, h4⟩ := w_val (h2 hb)
        simp only [hb, e3, if_true]
        obtain ⟨zs, Γ4, e4, h5⟩ := w_val (w_lcL Inv step ds (ys ++ [y]) (nos vs Γ3) (fun zs Γ => PL (y :: zs) Γ) (fun zs Γ q => k _ _ (by rw [List.append_assoc] at q; exact q)) h4)
        simp only [e4]
        exact h5
      · have hb : b = false := by simpa using hb
        simp only [hb, Bool.false_eq_true, if_false]
        exact w_lcL Inv step ds ys (nos vs Γ2) PL k (h3 hb)
def kLcT (te : DE) (vs : List Nat) (IY : D → Ga → Prop) (IN : Ga → Prop) : Bool → Ga → Prop := fun b Γ2 => (b = true → Wp (te Γ2) (fun y Γ3 => IY y (nos vs Γ3)) nE) ∧ (b = false → IN (nos vs Γ2))
def kLcE (vs : List Nat) (IY : D → Ga → Prop) : D → Ga → Prop := fun y Γ3 => IY y (nos vs Γ3)
theorem kLcT_ {te : DE} {vs : List Nat} {IY : D → Ga → Prop} {IN : Ga → Prop} {b : Bool} : kLcT te vs IY IN b Γ = ((b = true → Wp (te Γ) (kLcE vs IY) nE) ∧ (b = false → IN (nos vs Γ))) := (rfl)
theorem kLcE_ {vs : List Nat} {IY : D → Ga → Prop} {y : D} : kLcE vs IY y Γ = IY y (nos vs Γ) := (rfl)
/-- every element pure: the state stays -/
theorem w_lcMap {g : DG} {tt : DT} {te : DE} {vs : List Nat} {ds : List D} {Γ : Ga} {PL : List D → Ga → Prop} (f : D → Option D) (step : ∀ d ∈ ds, gAt (g d Γ) fun Γ1 => Wp (tt Γ1) (kLcT te vs (fun y Γ3 => f d = some y ∧ Γ3 = Γ) (fun Γ3 => f d = none ∧ Γ3 = Γ)) nE) (k : PL (ds.filterMap f) Γ) : Wp (lcL g tt te vs ds Γ) PL nE := by
  refine w_lcL (fun ds' ys Γ' => Γ' = Γ ∧ ∃ pre, ds = pre ++ ds' ∧ ys = pre.filterMap f) ?_ ds [] Γ PL ?_ ⟨rfl, [], rfl, rfl⟩
  · rintro d ds' ys Γ' ⟨rfl, pre, e, rfl⟩
    have h := step d (by rw [e]; simp)
    unfold gAt at h ⊢
    split at h
    · refine w_mono h fun b Γ2 ⟨h1, h2⟩ => ⟨fun hb => w_mono (h1 hb) fun y Γ3 ⟨h3, h4⟩ => ⟨h4, pre ++ [d], by simp [e], by simp [h3]⟩, fun hb => ⟨(h2 hb).2, pre ++ [d], by simp [e], by simp [(h2 hb).1]⟩⟩
    · exact h
  · rintro zs Γ' ⟨rfl, pre, e, h⟩
    rw [List.append_nil] at e
    subst e
    rw [show zs = List.filterMap f ds from h]
    exact k
end
/-! values -/
theorem v_add {i j : Int} : oAdd (.int i) (.int j) = some (.int (i + j)) := (rfl)
theorem v_sub {i j : Int} : oSub (.int i) (.int j) = some (.int (i - j)) := (rfl)
theorem v_mul {i j : Int} : oMul (.int i) (.int j) = if cMul i j = true then some (.int (i * j)) else none := (rfl)
theorem v_div {i j : Int} : oDiv (.int i) (.int j) = if cDiv i j = true then some (.int (i / j)) else none := (rfl)
theorem v_mod {i j : Int} : oMod (.int i) (.int j) = if cMod i j = true then some (.int (i % j)) else none := (rfl)
theorem v_pow {i j : Int} : oPow (.int i) (.int j) = if cPow i j = true then some (.int (i ^ j.toNat)) else none := (rfl)
theorem v_ltA {i j : Int} : oLtA (.int i) (.int j) = some (.bl (decide (i < j))) := (rfl)
theorem v_leA {i j : Int} : oLeA (.int i) (.int j) = some (.bl (decide (i ≤ j))) := (rfl)
theorem v_gtA {i j : Int} : oGtA (.int i) (.int j) = some (.bl (decide (j < i))) := (rfl)
theorem v_geA {i j : Int} : oGeA (.int i) (.int j) = some (.bl (decide (j ≤ i))) := (rfl)
theorem v_eqA {i j : Int} : oEqA (.int i) (.int j) = some (.bl (decide (i = j))) := (rfl)
theorem v_neA {i j : Int} : oNeA (.int i) (.int j) = some (.bl (!decide (i = j))) := (rfl)
theorem v_eqAs {i j : Str} : oEqA (.str i) (.str j) = some (.bl (decide (i = j))) := (rfl)
theorem v_eqAb {i j : Bool} : oEqA (.bl i) (.bl j) = some (.bl (decide (i = j))) := (rfl)
theorem v_plusI {i j : Int} : oPlus (.int i) (.int j) = some (.int (i + j)) := (rfl)
theorem v_max2i {i j : Int} : oMax2 [.int i, .int j] = some (.int (if j > i then j else i)) := (rfl)
theorem v_min2i {i j : Int} : oMin2 [.int i, .int j] = some (.int (if j < i then j else i)) := (rfl)
theorem v_one {f : D → Option D} {d : D} : one f [d] = f d := (rfl)
theorem v_lenL {xs : List D} : oLen (.lst xs) = some (.int xs.length) := (rfl)
theorem v_lenT {xs : List D} : oLen (.tup xs) = some (.int xs.length) := (rfl)
theorem v_intI {i : Int} : oInt (.int i) = some (.int i) := (rfl)
theorem v_tupL {xs : List D} : oTuple (.lst xs) = some (.tup xs) := (rfl)
theorem v_tupT {xs : List D} : oTuple (.tup xs) = some (.tup xs) := (rfl)
theorem v_lstL {xs : List D} : oList (.lst xs) = some (.lst xs) := (rfl)
theorem v_lstT {xs : List D} : oList (.tup xs) = some (.lst xs) := (rfl)
theorem v_sumL {xs : List D} : oSum (.lst xs) = (ilist xs).map fun ns => .int ns.sum := (rfl)
theorem v_sumT {xs : List D} : oSum (.tup xs) = (ilist xs).map fun ns => .int ns.sum := (rfl)
theorem v_maxL {xs : List D} : oMax (.lst xs) = (ilist xs).bind fun ns => (maxI ns).map .int := (rfl)
theorem v_minL {xs : List D} : oMin (.lst xs) = (ilist xs).bind fun ns => (minI ns).map .int := (rfl)
theorem u_isN {x : D} : oIsN x .non = some (.bl x.isN) := (rfl)
theorem u_notN {x : D} : oNotN x .non = some (.bl (!x.isN)) := (rfl)
theorem v_isT {T : String} {d : D} : oIsT T d = some (.bl (isT T d)) := (rfl)
theorem v_not {b : Bool} : oNot (.bl b) = some (.bl (!b)) := (rfl)
theorem u_neg {i : Int} : oNeg (.int i) = some (.int (-i)) := (rfl)
theorem v_slL {xs : List D} {lo hi : Option Int} : oSl (.lst xs) lo hi = some (.lst (cutD xs lo hi)) := (rfl)
theorem v_slT {xs : List D} {lo hi : Option Int} : oSl (.tup xs) lo hi = some (.tup (cutD xs lo hi)) := (rfl)
theorem v_ixL {xs : List D} {i : Int} : oIx (.lst xs) (.int i) = atI xs i := (rfl)
theorem v_ixT {xs : List D} {i : Int} : oIx (.tup xs) (.int i) = atI xs i := (rfl)
theorem v_r1 {j : Int} : oR1 [.int j] = if big j = true then some (rangeD 0 j.toNat) else none := (rfl)
theorem v_r2 {i j : Int} : oR2 [.int i, .int j] = if (big i && big j) = true then some (rangeD i (j - i).toNat) else none := (rfl)
theorem v_mulW {i j : Int} : oMulW (.int i) (.int j) = if cMulW i j = true then some (.int (i * j)) else none := (rfl)
theorem v_divW {i j : Int} : oDivW (.int i) (.int j) = if cDivW i j = true then some (.int (i / j)) else none := (rfl)
theorem v_gcdI {i j : Int} : oGcd [.int i, .int j] = some (.int ((Nat.gcd i.natAbs j.natAbs : Nat) : Int)) := (rfl)
theorem v_absI {i : Int} : oAbs (.int i) = some (.int (if i < 0 then -i else i)) := (rfl)
theorem v_sumR {j : Int} : oSumR [.int j] = if big j = true then some (.int (sumTo j.toNat)) else none := (rfl)
theorem v_foLstT {xs : List D} : foList [.tup xs] = some (O.lf xs) := (rfl)
theorem v_foLstL {xs : List D} : foList [.lst xs] = some (O.lf xs) := (rfl)
theorem v_foLst {xs : List D} : foLst xs = if sizeOk xs.length then some (O.lf xs) else none := (rfl)
theorem v_tupOf {xs : List D} : oTupOf xs = if sizeOk xs.length then some (.tup xs) else none := (rfl)
theorem v_lstOf {xs : List D} : oLstOf xs = if sizeOk xs.length then some (.lst xs) else none := (rfl)
theorem o_fz {d : D} : (O.fz d).d = some d := by simp only [O.d]
theorem o_ol {os : List O} : (O.ol os).d = (O.ds os).map .lst := by simp only [O.d]
theorem o_nil : O.ds [] = some [] := by simp only [O.ds]
theorem o_cons {o : O} {os : List O} : O.ds (o :: os) = (O.d o).bind fun d => (O.ds os).map (d :: ·) := by simp only [O.ds]
theorem atI_nat {α : Type} {xs : List α} {k : Nat} {x : α} (h : xs[k]? = some x) : atI xs (k : Int) = some x := by
  have hl : k < xs.length := (List.getElem?_eq_some_iff.mp h).1
  unfold atI ixN
  rw [if_pos (by omega), if_pos (by omega)]
  exact h
theorem ixN_nat {n : Nat} {i : Int} (h0 : 0 ≤ i) (h1 : i < n) : ixN n i = some i.toNat := by
  unfold ixN; rw [if_pos h0, if_pos h1]
theorem at0 {α : Type} {x : α} {xs : List α} : atI (x :: xs) 0 = some x := atI_nat (k := 0) rfl
theorem at1 {α : Type} {x y : α} {xs : List α} : atI (x :: y :: xs) 1 = some y := atI_nat (k := 1) rfl
theorem at2 {α : Type} {x y z : α} {xs : List α} : atI (x :: y :: z :: xs) 2 = some z := atI_nat (k := 2) rfl
theorem at3 {α : Type} {x y z u : α} {xs : List α} : atI (x :: y :: z :: u :: xs) 3 = some u := atI_nat (k := 3) rfl
theorem at4 {α : Type} {x y z u v : α} {xs : List α} : atI (x :: y :: z :: u :: v :: xs) 4 = some v := atI_nat (k := 4) rfl
theorem at5 {α : Type} {x y z u v w : α} {xs : List α} : atI (x :: y :: z :: u :: v :: w :: xs) 5 = some w := atI_nat (k := 5) rfl
theorem at6 {α : Type} {x y z u v w s : α} {xs : List α} : atI (x :: y :: z :: u :: v :: w :: s :: xs) 6 = some s := atI_nat (k := 6) rfl
theorem at7 {α : Type} {x y z u v w s t : α} {xs : List α} : atI (x :: y :: z :: u :: v :: w :: s :: t :: xs) 7 = some t := atI_nat (k := 7) rfl
theorem ix_1_0 : ixN 1 0 = some 0 := (rfl)
theorem ix_2_0 : ixN 2 0 = some 0 := (rfl)
theorem ix_2_1 : ixN 2 1 = some 1 := (rfl)
theorem ix_3_0 : ixN 3 0 = some 0 := (rfl)
theorem ix_3_1 : ixN 3 1 = some 1 := (rfl)
theorem ix_3_2 : ixN 3 2 = some 2 := (rfl)
theorem ix_4_0 : ixN 4 0 = some 0 := (rfl)
theorem ix_4_1 : ixN 4 1 = some 1 := (rfl)
theorem ix_4_2 : ixN 4 2 = some 2 := (rfl)
theorem ix_4_3 : ixN 4 3 = some 3 := (rfl)
theorem ix_5_0 : ixN 5 0 = some 0 := (rfl)
theorem ix_5_1 : ixN 5 1 = some 1 := (rfl)
theorem ix_5_2 : ixN 5 2 = some 2 := (rfl)
theorem ix_5_3 : ixN 5 3 = some 3 := (rfl)
theorem ix_5_4 : ixN 5 4 = some 4 := (rfl)
theorem ix_6_0 : ixN 6 0 = some 0 := (rfl)
theorem ix_6_1 : ixN 6 1 = some 1 := (rfl)
theorem ix_6_2 : ixN 6 2 = some 2 := (rfl)
theorem ix_6_3 : ixN 6 3 = some 3 := (rfl)
theorem ix_6_4 : ixN 6 4 = some 4 := (rfl)
theorem ix_6_5 : ixN 6 5 = some 5 := (rfl)
theorem ix_7_0 : ixN 7 0 = some 0 := (rfl)
theorem ix_7_1 : ixN 7 1 = some 1 := (rfl)
theorem ix_7_2 : ixN 7 2 = some 2 := (rfl)
theorem ix_7_3 : ixN 7 3 = some 3 := (rfl)
theorem ix_7_4 : ixN 7 4 = some 4 := (rfl)
theorem ix_7_5 : ixN 7 5 = some 5 := (rfl)
theorem ix_7_6 : ixN 7 6 = some 6 := (rfl)
theorem ix_8_0 : ixN 8 0 = some 0 := (rfl)
theorem ix_8_1 : ixN 8 1 = some 1 := (rfl)
theorem ix_8_2 : ixN 8 2 = some 2 := (rfl)
theorem ix_8_3 : ixN 8 3 = some 3 := (rfl)
theorem ix_8_4 : ixN 8 4 = some 4 := (rfl)
theorem ix_8_5 : ixN 8 5 = some 5 := (rfl)
theorem ix_8_6 : ixN 8 6 = some 6 := (rfl)
theorem ix_8_7 : ixN 8 7 = some 7 := (rfl)
theorem ix_9_0 : ixN 9 0 = some 0 := (rfl)
theorem ix_9_1 : ixN 9 1 = some 1 := (rfl)
theorem ix_9_2 : ixN 9 2 = some 2 := (rfl)
theorem ix_9_3 : ixN 9 3 = some 3 := (rfl)
theorem ix_9_4 : ixN 9 4 = some 4 := (rfl)
theorem ix_9_5 : ixN 9 5 = some 5 := (rfl)
theorem ix_9_6 : ixN 9 6 = some 6 := (rfl)
theorem ix_9_7 : ixN 9 7 = some 7 := (rfl)
theorem ix_9_8 : ixN 9 8 = some 8 := (rfl)
theorem ix_10_0 : ixN 10 0 = some 0 := (rfl)
theorem ix_10_1 : ixN 10 1 = some 1 := (rfl)
theorem ix_10_2 : ixN 10 2 = some 2 := (rfl)
theorem ix_10_3 : ixN 10 3 = some 3 := (rfl)
theorem ix_10_4 : ixN 10 4 = some 4 := (rfl)
theorem ix_10_5 : ixN 10 5 = some 5 := (rfl)
theorem ix_10_6 : ixN 10 6 = some 6 := (rfl)
theorem ix_10_7 : ixN 10 7 = some 7 := (rfl)
theorem ix_10_8 : ixN 10 8 = some 8 := (rfl)
theorem ix_10_9 : ixN 10 9 = some 9 := (rfl)
theorem ix_11_0 : ixN 11 0 = some 0 := (rfl)
theorem ix_11_1 : ixN 11 1 = some 1 := (rfl)
theorem ix_11_2 : ixN 11 2 = some 2 := (rfl)
theorem ix_11_3 : ixN 11 3 = some 3 := (rfl)
theorem ix_11_4 : ixN 11 4 = some 4 := (rfl)
theorem ix_11_5 : ixN 11 5 = some 5 := (rfl)
theorem ix_11_6 : ixN 11 6 = some 6 := (rfl)
theorem ix_11_7 : ixN 11 7 = some 7 := (rfl)
theorem ix_11_8 : ixN 11 8 = some 8 := (rfl)
theorem ix_11_9 : ixN 11 9 = some 9 := (rfl)
theorem ix_11_10 : ixN 11 10 = some 10 := (rfl)
theorem ix_12_0 : ixN 12 0 = some 0 := (rfl)
theorem ix_12_1 : ixN 12 1 = some 1 := (rfl)
theorem ix_12_2 : ixN 12 2 = some 2 := (rfl)
theorem ix_12_3 : ixN 12 3 = some 3 := (rfl)
theorem ix_12_4 : ixN 12 4 = some 4 := (rfl)
theorem ix_12_5 : ixN 12 5 = some 5 := (rfl)
theorem ix_12_6 : ixN 12 6 = some 6 := (rfl)
theorem ix_12_7 : ixN 12 7 = some 7 := (rfl)
theorem ix_12_8 : ixN 12 8 = some 8 := (rfl)
theorem ix_12_9 : ixN 12 9 = some 9 := (rfl)
theorem ix_12_10 : ixN 12 10 = some 10 := (rfl)
theorem ix_12_11 : ixN 12 11 = some 11 := (rfl)
theorem isT_tuple_non : isT "tuple" (.non) = false := (rfl)
theorem isT_tuple_bl {b : Bool} : isT "tuple" (.bl b) = false := (rfl)
theorem isT_tuple_int {i : Int} : isT "tuple" (.int i) = false := (rfl)
theorem isT_tuple_str {s : Str} : isT "tuple" (.str s) = false := (rfl)
theorem isT_tuple_tup {xs : List D} : isT "tuple" (.tup xs) = true := (rfl)
theorem isT_tuple_lst {xs : List D} : isT "tuple" (.lst xs) = false := (rfl)
theorem isT_int_non : isT "int" (.non) = false := (rfl)
theorem isT_int_bl {b : Bool} : isT "int" (.bl b) = true := (rfl)
theorem isT_int_int {i : Int} : isT "int" (.int i) = true := (rfl)
theorem isT_int_str {s : Str} : isT "int" (.str s) = false := (rfl)
theorem isT_int_tup {xs : List D} : isT "int" (.tup xs) = false := (rfl)
theorem isT_int_lst {xs : List D} : isT "int" (.lst xs) = false := (rfl)
theorem isT_bool_non : isT "bool" (.non) = false := (rfl)
theorem isT_bool_bl {b : Bool} : isT "bool" (.bl b) = true := (rfl)
theorem isT_bool_int {i : Int} : isT "bool" (.int i) = false := (rfl)
theorem isT_bool_str {s : Str} : isT "bool" (.str s) = false := (rfl)
theorem isT_bool_tup {xs : List D} : isT "bool" (.tup xs) = false := (rfl)
theorem isT_bool_lst {xs : List D} : isT "bool" (.lst xs) = false := (rfl)
theorem isT_str_non : isT "str" (.non) = false := (rfl)
theorem isT_str_bl {b : Bool} : isT "str" (.bl b) = false := (rfl)
theorem isT_str_int {i : Int} : isT "str" (.int i) = false := (rfl)
theorem isT_str_str {s : Str} : isT "str" (.str s) = true := (rfl)
theorem isT_str_tup {xs : List D} : isT "str" (.tup xs) = false := (rfl)
theorem isT_str_lst {xs : List D} : isT "str" (.lst xs) = false := (rfl)
theorem isT_list_non : isT "list" (.non) = false := (rfl)
theorem isT_list_bl {b : Bool} : isT "list" (.bl b) = false := (rfl)
theorem isT_list_int {i : Int} : isT "list" (.int i) = false := (rfl)
theorem isT_list_str {s : Str} : isT "list" (.str s) = false := (rfl)
theorem isT_list_tup {xs : List D} : isT "list" (.tup xs) = false := (rfl)
theorem isT_list_lst {xs : List D} : isT "list" (.lst xs) = true := (rfl)
theorem isN_non : D.isN (.non) = true := (rfl)
theorem isN_bl {b : Bool} : D.isN (.bl b) = false := (rfl)
theorem isN_int {i : Int} : D.isN (.int i) = false := (rfl)
theorem isN_str {s : Str} : D.isN (.str s) = false := (rfl)
theorem isN_tup {xs : List D} : D.isN (.tup xs) = false := (rfl)
theorem isN_lst {xs : List D} : D.isN (.lst xs) = false := (rfl)
theorem at_ints {ws : List Int} {i : Int} : atI (ws.map D.int) i = (ixN ws.length i).map fun j => .int (ws.getD j 0) := by
  unfold atI
  rw [List.length_map]
  cases h : ixN ws.length i with
  | none => rfl
  | some j =>
    have hj := (ixN_seq h).2.1
    simp only [Option.bind_some, Option.map_some, List.getElem?_map, List.getD_eq_getElem?_getD, List.getElem?_eq_getElem hj, Option.getD_some]
theorem sz_iff {n : Nat} : (sizeOk n = true) = (n ≤ 16000000) := by unfold sizeOk; simp
theorem big_iff {j : Int} : (big j = true) = (-4611686018427387904 ≤ j ∧ j < 4611686018427387904) := by unfold big; simp
theorem div_iff {i j : Int} : (cDiv i j = true) = (0 < j ∧ j < 1073741824) := by unfold cDiv; simp
theorem mod_iff {i j : Int} : (cMod i j = true) = (0 < j) := by unfold cMod; simp
theorem mul_iff {i j : Int} : (cMul i j = true) = ((-18446744073709551616 < i ∧ i < 18446744073709551616) ∨ (-18446744073709551616 < j ∧ j < 18446744073709551616)) := by unfold cMul; simp
theorem mulW_iff {i j : Int} : (cMulW i j = true) = CMulW i j := by unfold cMulW CMulW; simp
theorem divW_iff {i j : Int} : (cDivW i j = true) = CDivW i j := by unfold cDivW CDivW; simp
theorem pow_iff {i j : Int} : (cPow i j = true) = (0 ≤ j ∧ j ≤ 1000000 ∧ i.natAbs < 18446744073709551616) := by unfold cPow; simp [and_assoc]
theorem w_lcK {g : DG} {tt : DT} {te : DE} {vs : List Nat} {ds : List D} {Γ : Ga} {PL : List D → Ga → Prop} (Inv : Nat → List D → Ga → Prop) (h : Inv 0 [] Γ) (step : ∀ k d ys Γ, ds[k]? = some d → Inv k ys Γ → gAt (g d Γ) fun Γ1 => Wp (tt Γ1) (kLcT te vs (fun y Γ3 => Inv (k + 1) (ys ++ [y]) Γ3) (fun Γ3 => Inv (k + 1) ys Γ3)) nE) (last : ∀ zs Γ, Inv ds.length zs Γ → PL zs Γ) : Wp (lcL g tt te vs ds Γ) PL nE :=
  w_lcL (fun rest ys Γ => ∃ k, rest = ds.drop k ∧ k ≤ ds.length ∧ Inv k ys Γ) (fun d rest ys Γ ⟨k, e, hk, h⟩ => by
    have hd : ds[k]? = some d := by
      have := congrArg (·[0]?) e
      simpa using this.symm
    have hr : rest = ds.drop (k + 1) := by
      have := congrArg List.tail e
      simpa using this
    have hl := (List.getElem?_eq_some_iff.mp hd).1
    have s := step k d ys Γ hd h
    unfold gAt at s ⊢
    split at s
    · exact w_mono s fun b Γ2 ⟨h1, h2⟩ => ⟨fun hb => w_mono (h1 hb) fun y Γ3 h3 => ⟨k + 1, hr, hl, h3⟩, fun hb => ⟨k + 1, hr, hl, h2 hb⟩⟩
    · exact s) ds [] Γ PL (fun zs Γ ⟨k, e, hk, h⟩ => last zs Γ (by
      have : ds.length ≤ k := List.drop_eq_nil_iff.mp e.symm
      rw [show ds.length = k by omega]; simpa using h)) ⟨0, rfl, Nat.zero_le _, h⟩
theorem w_loopN {E : EX} {PS : Fl → Ga → Prop} {g : DG} {body : DS} {ds : List D} {Γ : Ga} (Inv : Nat → Ga → Prop) (h : Inv 0 Γ) (step : ∀ k d Γ, ds[k]? = some d → Inv k Γ → gAt (g d Γ) fun Γ1 => Wp (body Γ1) (kRnd (Inv (k + 1)) PS) E) (last : ∀ Γ, Inv ds.length Γ → PS .nx Γ) : Wp (loopD g body ds Γ) PS E :=
  w_loopK (fun rest Γ => ∃ k, rest = ds.drop k ∧ k ≤ ds.length ∧ Inv k Γ) ⟨0, rfl, Nat.zero_le _, h⟩ (fun d rest Γ ⟨k, e, hk, h⟩ => by
    have hd : ds[k]? = some d := by
      have := congrArg (·[0]?) e
      simpa using this.symm
    have hr : rest = ds.drop (k + 1) := by
      have := congrArg List.tail e
      simpa using this
    have hl := (List.getElem?_eq_some_iff.mp hd).1
    have s := step k d Γ hd h
    unfold gAt at s ⊢
    split at s
    · refine w_mono s fun f Γ2 h3 => ?_
      cases f with
      | nx => exact ⟨k + 1, hr, hl, h3⟩
      | ct => exact ⟨k + 1, hr, hl, h3⟩
      | bk => exact h3
      | rt o => exact h3
    · exact s) (fun Γ ⟨k, e, hk, h⟩ => last Γ (by
      have : ds.length ≤ k := List.drop_eq_nil_iff.mp e.symm
      rw [show ds.length = k by omega]; exact h))
theorem rangeD_get {n k : Nat} {i : Int} {d : D} (h : (rangeD i n)[k]? = some d) : k < n ∧ d = .int (i + (k : Nat)) := by
  simp only [rangeD, List.getElem?_map, Option.map_eq_some_iff] at h
  obtain ⟨j, hj, rfl⟩ := h
  have := List.getElem?_eq_some_iff.mp hj
  simp at this
  obtain ⟨h1, rfl⟩ := this
  exact ⟨h1, rfl⟩
theorem rangeD_get0 {n k : Nat} {d : D} (h : (rangeD 0 n)[k]? = some d) : k < n ∧ d = .int (k : Nat) := by
  have := rangeD_get h; simpa using this
theorem rangeD_len {i : Int} {n : Nat} : (rangeD i n).length = n := by simp [rangeD]
theorem numbered_len {xs : List D} : (numbered xs).length = xs.length := by simp [numbered]
theorem ints_get {ws : List Int} {k : Nat} (h : k < ws.length) : (ws.map D.int)[k]? = some (.int (ws.getD k 0)) := by
  rw [List.getElem?_map, List.getElem?_eq_getElem h, List.getD_eq_getElem?_getD, List.getElem?_eq_getElem h]; rfl
theorem atI_all {α : Type} {xs : List α} {i : Int} (p : α → Prop) (h0 : 0 ≤ i) (h1 : i < xs.length) (h : ∀ x ∈ xs, p x) : ∃ x, atI xs i = some x ∧ p x := by
  have hl : i.toNat < xs.length := by omega
  refine ⟨xs[i.toNat], ?_, h _ (List.getElem_mem hl)⟩
  unfold atI
  rw [ixN_nat h0 h1]
  exact List.getElem?_eq_getElem hl
theorem at_intsN {ws : List Int} {i : Int} (h0 : 0 ≤ i) (h1 : i < ws.length) : atI (ws.map D.int) i = some (.int (ws.getD i.toNat 0)) := by rw [at_ints, ixN_nat h0 h1]; rfl
theorem filterMap_len {α β γ : Type} (f : α → Option β) (g : α → Option γ) : ∀ xs : List α, (∀ x ∈ xs, (f x).isSome = (g x).isSome) → (xs.filterMap f).length = (xs.filterMap g).length
  | [], _ => rfl
  | x :: xs, h => by
    have h1 := h x (List.mem_cons_self ..)
    have h2 := filterMap_len f g xs fun y hy => h y (List.mem_cons_of_mem _ hy)
    simp only [List.filterMap_cons]
    cases e : f x <;> cases e2 : g x <;> simp_all
theorem cutD_map {α β : Type} (f : α → β) (xs : List α) (lo hi : Option Int) : cutD (xs.map f) lo hi = (cutD xs lo hi).map f := by
  unfold cutD; simp
/-- data that == goes through, n deep -/
def lit : Nat → D → Bool
  | 0, _ => false
  | n + 1, .tup xs => xs.all (lit n)
  | n + 1, .lst xs => xs.all (lit n)
  | n + 1, .int _ => true
  | n + 1, .str s => PyData.strOk s
  | n + 1, .bl _ => true
  | n + 1, .non => true
  | _, _ => false
theorem pys_ok {n : Nat} {p : PyData → Prop} : True := trivial
theorem lit_all {n : Nat} : ∀ xs : List D, (∀ x ∈ xs, x.py.canLay0 = true ∧ x.py.depth ≤ n ∧ PyData.eqv x.py x.py = true) → PyData.canLayAll0 (D.pys xs) = true ∧ PyData.depthAll (D.pys xs) ≤ n ∧ PyData.eqvAll (D.pys xs) (D.pys xs) = true
  | [], _ => by simp [D.pys, PyData.canLayAll0, PyData.depthAll, PyData.eqvAll]
  | x :: xs, h => by
    have h1 := h x (List.mem_cons_self ..)
    have h2 := lit_all xs fun y hy => h y (List.mem_cons_of_mem _ hy)
    simp only [D.pys, PyData.canLayAll0, PyData.depthAll, PyData.eqvAll, Bool.and_eq_true]
    exact ⟨⟨h1.1, h2.1⟩, Nat.max_le.mpr ⟨h1.2.1, h2.2.1⟩, h1.2.2, h2.2.2⟩
theorem lit_py : ∀ (n : Nat) (d : D), lit n d = true → d.py.canLay0 = true ∧ d.py.depth ≤ n ∧ PyData.eqv d.py d.py = true
  | 0, _, h => by simp [lit] at h
  | n + 1, .tup xs, h => by
    simp only [lit, List.all_eq_true] at h
    have := lit_all xs fun x hx => lit_py n x (h x hx)
    simp only [D.py, PyData.canLay0, PyData.depth, PyData.eqv]
    exact ⟨this.1, by omega, this.2.2⟩
  | n + 1, .lst xs, h => by
    simp only [lit, List.all_eq_true] at h
    have := lit_all xs fun x hx => lit_py n x (h x hx)
    simp only [D.py, PyData.canLay0, PyData.depth, PyData.eqv]
    exact ⟨this.1, by omega, this.2.2⟩
  | n + 1, .int _, h => by simp [D.py, PyData.canLay0, PyData.depth, PyData.eqv]
  | n + 1, .str s, h => by
    simp only [lit] at h
    simp [D.py, PyData.canLay0, PyData.depth, PyData.eqv, h]
  | n + 1, .bl _, h => by simp [D.py, PyData.canLay0, PyData.depth, PyData.eqv]
  | n + 1, .non, h => by simp [D.py, PyData.canLay0, PyData.depth, PyData.eqv]
  | n + 1, .dK _ _, h => by simp [lit] at h
  | n + 1, .dT _ _, h => by simp [lit] at h
theorem eqA_lit {n : Nat} {d : D} (h : lit n d = true) (hn : n ≤ 64) (he : oEq d d = none) : oEqA d d = some (.bl true) := by
  obtain ⟨h1, h2, h3⟩ := lit_py n d h
  have hs : d.shp = true := by
    unfold D.shp SeqAt.shaped
    rw [h1]; simpa using Nat.le_trans h2 hn
  unfold oEqA oEqD D.eqv
  rw [he, hs, h3]; rfl
theorem eqA_ints {ws : List Int} : oEqA (.lst (ws.map D.int)) (.lst (ws.map D.int)) = some (.bl true) := eqA_lit (n := 2) (by simp [lit]) (by decide) rfl
/-- the same, closed: nothing looks into it -/
structure Okw {α : Type} (r : Res α) (P : α → Ga → Prop) : Prop where
  w : Wp r P nE
theorem w_okw {α : Type} {r : Res α} {P Q : α → Ga → Prop} (h : Okw r P) (i : ∀ a Γ, P a Γ → Q a Γ) : Wp r Q nE := w_mono h.w i
end DL
end
section
set_option Elab.async false
set_option linter.all false
set_option maxRecDepth 100000
/-! The numbers drawn from a script, and sameness: alike in the laws from 80 on. -/
namespace DL
open PySem L2
def δDraw : DS := (dSeq (dIfS (dtAnd (dtBor 0 (dtB (d2 oLtA (d2 oIx (dVar 0) (dC (.int 2))) (dVar 1)))) (dtBor 0 (dtB (d2 oLtA (d2 oIx (dVar 0) (dC (.int 1))) (dA (one oLen) (daCons (d2 oIx (dVar 0) (dC (.int 0))) daNil)))))) (dSeq (dSet 2 (dBor 0 (dA (one oInt) (daCons (d2 oIx (d2 oIx (dVar 0) (dC (.int 0))) (d2 oIx (dVar 0) (dC (.int 1)))) daNil))))
  (dSeq (dPut 0 (dC (.int 1)) (dBor 0 (d2 oPlus (d2 oIx (dVar 0) (dC (.int 1))) (dC (.int 1)))))
  (dSeq (dPut 0 (dC (.int 3)) (dBor 0 (d2 oMod (dA (one oInt) (daCons (d2 oPlus (d2 oPlus (d2 oMul (d2 oIx (dVar 0) (dC (.int 3))) (dC (.int 48271))) (d2 oMod (dA (one oInt) (daCons (dVar 2) daNil)) (dC (.int 2147483647)))) (dC (.int 69621))) daNil)) (dC (.int 2147483647)))))
  (dSeq (dPut 0 (dC (.int 2)) (dC (.int 0)))
  (dIfS (dtB (d2 oGeA (dVar 2) (d2 oPow (dC (.int 10)) (dC (.int 18))))) (dPut 0 (dC (.int 2)) (dVar 2)) dNx))))) dNx)
  (dSeq (dIfS (dtBor 0 (dtB (d2 oGeA (d2 oIx (dVar 0) (dC (.int 2))) (dVar 1)))) (dSeq (dSet 3 (dBor 0 (d2 oMod (dA (one oInt) (daCons (d2 oIx (dVar 0) (dC (.int 2))) daNil)) (dVar 1))))
  (dSeq (dPut 0 (dC (.int 2)) (dBor 0 (d2 oDiv (d2 oIx (dVar 0) (dC (.int 2))) (dVar 1))))
  (dRet (dVar 3)))) dNx)
  (dSeq (dPut 0 (dC (.int 3)) (dBor 0 (d2 oMod (dA (one oInt) (daCons (d2 oPlus (d2 oMul (d2 oIx (dVar 0) (dC (.int 3))) (dC (.int 16807))) (dC (.int 11))) daNil)) (dC (.int 2147483647)))))
  (dRet (dBor 0 (d2 oMod (dA (one oInt) (daCons (d2 oDiv (d2 oIx (dVar 0) (dC (.int 3))) (dC (.int 3))) daNil)) (dVar 1)))))))
def mDraw : DOw := dFn 2 δDraw
/-- a feed: its cells and three numbers that are not negative -/
def feedO (cs : List Int) (i j k : Int) : O := .ol [.fz (.lst (cs.map D.int)), .fz (.int i), .fz (.int j), .fz (.int k)]
def FeedOk (o : O) : Prop := ∃ cs i j k, o = feedO cs i j k ∧ 0 ≤ i ∧ 0 ≤ j ∧ 0 ≤ k
theorem draw_ok {o : O} {m : Int} (ho : FeedOk o) (h0 : 0 < m) (h1 : m < 1073741824) : Wp (mDraw [.ow (some 0) o, .fz (.int m)]) (fun r Γ => ∃ x o', r = .fz (.int x) ∧ 0 ≤ x ∧ x < m ∧ FeedOk o' ∧ Γ = [.ow (some 0) o', .fz (.int m)]) nE := by
  obtain ⟨cs, i, j, k, rfl, hi, hj, hk⟩ := ho
  unfold mDraw δDraw feedO
  simp only [w_some, w_ofIf, w_ofMap, vAt_fz, w_var, w_C, k1_, w_1, k2b_, k2_, w_2, kA_, w_A, kMb_, kM_, w_M, w_aNil, kaCb_, kaC_, w_aCons, w_oNo, koAt_i, w_oAt, kSlc_, kSlb_, kSl_, w_Sl, ktB_, w_tB, bl_bl, ktT_, w_tTr, ktAnd_, w_tAnd, ktOr_, w_tOr, ktNot_, w_tNot, w_tYes, kIf_, w_If, kAnd_b, kOr_b, w_And, w_Or, ktL_, kbL_, kbF_, lentT_o, lentT_f, lentB_o, lentB_f, w_tBor, w_Bor, flat_int, flat_bl, flat_str, flat_non, kS_nx, kS_bk, kS_ct, kS_rt, w_Seq, kJ_s, w_J, w_Nx, w_Bk, w_Ct, kSet_, w_Set, kAugb_, kAugc_, kAug_, w_Aug, kParb_, kPar_, w_Par, gAt_some, kAsg_, w_Asg, kDrop_, w_Drop, kRet_, w_Ret, w_RetN, kIfS_, w_IfS, kApp_, kApp2_, appAt_, w_App, kPut_, putAt_, kPut2_, kPut3_, w_Put, w_Frz, frz_eq, frz1_ow, frz1_fz, kSetO_, w_SetO, kUp_, w_Up, kO_, w_O, dAt_, kFz_, w_Fz, rAt_ow, kRetO_, w_RetO, fEnd_rt, fEnd_nx, w_Fn, w_noEx, w_arNil, karb_, kar_, w_arCons, kasb_, kas_, w_arSlot, callAt_, kBack_, kCall_, w_Call, pull_nil, pull_fz, pull_sl, pull1_ow, push_nil, push_fz, push_sl, push1_ow, outs_nil, outs_f, outs_o, gN_ap, gTp_ap, gsNil_ap, gsCons_ap, kFor_, w_For, kiR_, w_iR, kiS_l, kiS_t, kiE_l, kiE_t, kiC_s, w_iC, w_iS, w_iE, kRnd_nx, kRnd_ct, kRnd_bk, kRnd_rt, kLcB_, kLcBO_, kLc_, kLcO_, w_Lc, w_LcO, kLcT_, kLcE_, v_add, v_sub, v_mul, v_div, v_mod, v_pow, v_ltA, v_leA, v_gtA, v_geA, v_eqA, v_neA, v_eqAs, v_eqAb, v_plusI, v_max2i, v_min2i, v_one, v_lenL, v_lenT, v_intI, v_tupL, v_tupT, v_lstL, v_lstT, v_sumL, v_sumT, v_maxL, v_minL, u_isN, u_notN, v_isT, v_not, u_neg, v_slL, v_slT, v_ixL, v_ixT, v_r1, v_r2, v_mulW, v_divW, v_gcdI, v_absI, v_sumR, v_foLstT, v_foLstL, v_foLst, v_tupOf, v_lstOf, o_fz, o_ol, o_nil, o_cons, at0, at1, at2, at3, at4, at5, at6, at7, ix_1_0, ix_2_0, ix_2_1, ix_3_0, ix_3_1, ix_3_2, ix_4_0, ix_4_1, ix_4_2, ix_4_3, ix_5_0, ix_5_1, ix_5_2, ix_5_3, ix_5_4, ix_6_0, ix_6_1, ix_6_2, ix_6_3, ix_6_4, ix_6_5, ix_7_0, ix_7_1, ix_7_2, ix_7_3, ix_7_4, ix_7_5, ix_7_6, ix_8_0, ix_8_1, ix_8_2, ix_8_3, ix_8_4, ix_8_5, ix_8_6, ix_8_7, ix_9_0, ix_9_1, ix_9_2, ix_9_3, ix_9_4, ix_9_5, ix_9_6, ix_9_7, ix_9_8, ix_10_0, ix_10_1, ix_10_2, ix_10_3, ix_10_4, ix_10_5, ix_10_6, ix_10_7, ix_10_8, ix_10_9, ix_11_0, ix_11_1, ix_11_2, ix_11_3, ix_11_4, ix_11_5, ix_11_6, ix_11_7, ix_11_8, ix_11_9, ix_11_10, ix_12_0, ix_12_1, ix_12_2, ix_12_3, ix_12_4, ix_12_5, ix_12_6, ix_12_7, ix_12_8, ix_12_9, ix_12_10, ix_12_11, isT_tuple_non, isT_tuple_bl, isT_tuple_int, isT_tuple_str, isT_tuple_tup, isT_tuple_lst, isT_int_non, isT_int_bl, isT_int_int, isT_int_str, isT_int_tup, isT_int_lst, isT_bool_non, isT_bool_bl, isT_bool_int, isT_bool_str, isT_bool_tup, isT_bool_lst, isT_str_non, isT_str_bl, isT_str_int, isT_str_str, isT_str_tup, isT_str_lst, isT_list_non, isT_list_bl, isT_list_int, isT_list_str, isT_list_tup, isT_list_lst, isN_non, isN_bl, isN_int, isN_str, isN_tup, isN_lst, at_ints, sz_iff, big_iff, div_iff, mod_iff, mul_iff, mulW_iff, divW_iff, pow_iff, List.getElem?_cons_succ, List.getElem?_cons_zero, List.set_cons_zero, List.set_cons_succ, List.cons_append, List.nil_append, List.replicate, Option.map_some, Option.bind_some, decide_eq_true_eq, decide_eq_false_iff_not, Option.some.injEq, exists_eq_left', Bool.not_eq_true', Bool.not_eq_false', Bool.not_true, Bool.not_false, Int.not_lt, Int.not_le, true_and, and_true, if_true, List.length_cons, List.length_nil, List.map_cons, List.map_nil, true_imp_iff, false_imp_iff, imp_self, imp_true_iff, not_true_eq_false, not_false_eq_true, List.length_map, Bool.false_eq_true, if_false, Bool.true_eq_false, reduceCtorEq, nos, backs, Sl.keep, decide_true, decide_false, ilist_map, O.lf, List.contains_cons, List.contains_nil, Bool.and_eq_true, beq_self_eq_true, Bool.or_false, Bool.or_true, Bool.true_or, Bool.false_or, and_self, if_pos, gAt_some, ds_fz, Nat.reduceBEq, Nat.reduceEqDiff, ite_self, rangeD_len, numbered_len, Int.toNat_natCast, Nat.reduceAdd, Int.reduceMod, Int.reduceDiv, Int.reduceLT, Int.reduceLE, Int.reduceNeg, Int.reduceMul, Int.reduceAdd, Int.reduceSub, Int.reducePow, Nat.reduceAdd, Nat.reduceLT, Nat.reduceLeDiff, Int.reduceEq, true_or, or_true, Int.reduceToNat, Int.toNat_zero, Int.toNat_one, List.length_set, List.length_append, List.length_singleton, Int.reduceAbs]
  have fin : ∀ (e a b c : Int), 0 ≤ a → 0 ≤ b → 0 ≤ c → ∃ x o', O.fz (D.int (e % m)) = O.fz (D.int x) ∧ 0 ≤ x ∧ x < m ∧ FeedOk o' ∧ [Sl.ow (some 0) (feedO cs a b c), Sl.fz (D.int m)] = [Sl.ow (some 0) o', Sl.fz (D.int m)] :=
    fun e a b c ha hb hc => ⟨_, _, rfl, Int.emod_nonneg _ (by omega), Int.emod_lt_of_pos _ h0, ⟨cs, a, b, c, rfl, ha, hb, hc⟩, rfl⟩
  repeat' (first | omega | (refine fin _ _ _ _ ?_ ?_ ?_ <;> first | omega | exact Int.ediv_nonneg (by omega) (by omega)) | (intro _) | (refine ⟨_, ixN_nat (by omega) (by omega), ?_⟩) | (refine And.intro ?_ ?_))
def δSame (g : List D → Option D) : DS := (dSeq (dIfS (dtB (d1 (oIsT "tuple") (dVar 0))) (dSeq (dIfS (dtOr (dtNot (dtB (d1 (oIsT "tuple") (dVar 1)))) (dtB (d2 oNeA (dA (one oLen) (daCons (dVar 1) daNil)) (dA (one oLen) (daCons (dVar 0) daNil))))) (dRet (dC (.bl false))) dNx)
  (dSeq (dFor (diR oR1 (daCons (dA (one oLen) (daCons (dVar 0) daNil)) daNil)) (gN 2) (dIfS (dtNot (dtB (dA g (daCons (d2 oIx (dVar 0) (dVar 2)) (daCons (d2 oIx (dVar 1) (dVar 2)) daNil))))) (dRet (dC (.bl false))) dNx))
  (dRet (dC (.bl true))))) dNx)
  (dSeq (dIfS (dtB (d2 oIsN (dVar 0) (dC .non))) (dRet (d2 oIsN (dVar 1) (dC .non))) dNx)
  (dSeq (dIfS (dtB (d1 (oIsT "bool") (dVar 0))) (dRet (dAnd (d1 (oIsT "bool") (dVar 1)) (d2 oEqA (dVar 1) (dVar 0)))) dNx)
  (dSeq (dIfS (dtB (d1 (oIsT "int") (dVar 0))) (dRet (dAnd (d1 (oIsT "int") (dVar 1)) (dAnd (d1 oNot (d1 (oIsT "bool") (dVar 1))) (d2 oEqA (dVar 1) (dVar 0))))) dNx)
  (dRet (dAnd (d1 (oIsT "str") (dVar 1)) (d2 oEqA (dVar 1) (dVar 0))))))))
def rSame : Nat → List D → Option D
  | 0 => fun _ => none
  | n + 1 => toP 2 (dFn 1 (δSame (rSame n)))

/-- data that _law_same goes through, n deep -/
def plain : Nat → D → Bool
  | 0, _ => false
  | n + 1, .tup xs => xs.all (plain n) && sizeOk xs.length
  | n + 1, .int _ => true
  | n + 1, .str _ => true
  | n + 1, .bl _ => true
  | n + 1, .non => true
  | _, _ => false
theorem rangeD_mem {n : Nat} {d : D} (h : d ∈ rangeD 0 n) : ∃ k : Nat, d = .int k ∧ k < n := by
  simp only [rangeD, List.mem_map, List.mem_range] at h
  obtain ⟨k, hk, rfl⟩ := h
  exact ⟨k, by simp, hk⟩
theorem same_ok : ∀ (n : Nat) (d : D), plain n d = true → rSame n [d, d] = some (.bl true)
  | 0, _, h => by cases h
  | n + 1, d, h => by
    refine w_toP (by rfl) ?_
    unfold δSame
    cases d with
    | tup xs =>
      simp only [plain, Bool.and_eq_true, List.all_eq_true, sz_iff] at h
      simp only [w_some, w_ofIf, w_ofMap, vAt_fz, w_var, w_C, k1_, w_1, k2b_, k2_, w_2, kA_, w_A, kMb_, kM_, w_M, w_aNil, kaCb_, kaC_, w_aCons, w_oNo, koAt_i, w_oAt, kSlc_, kSlb_, kSl_, w_Sl, ktB_, w_tB, bl_bl, ktT_, w_tTr, ktAnd_, w_tAnd, ktOr_, w_tOr, ktNot_, w_tNot, w_tYes, kIf_, w_If, kAnd_b, kOr_b, w_And, w_Or, ktL_, kbL_, kbF_, lentT_o, lentT_f, lentB_o, lentB_f, w_tBor, w_Bor, flat_int, flat_bl, flat_str, flat_non, kS_nx, kS_bk, kS_ct, kS_rt, w_Seq, kJ_s, w_J, w_Nx, w_Bk, w_Ct, kSet_, w_Set, kAugb_, kAugc_, kAug_, w_Aug, kParb_, kPar_, w_Par, gAt_some, kAsg_, w_Asg, kDrop_, w_Drop, kRet_, w_Ret, w_RetN, kIfS_, w_IfS, kApp_, kApp2_, appAt_, w_App, kPut_, putAt_, kPut2_, kPut3_, w_Put, w_Frz, frz_eq, frz1_ow, frz1_fz, kSetO_, w_SetO, kUp_, w_Up, kO_, w_O, dAt_, kFz_, w_Fz, rAt_ow, kRetO_, w_RetO, fEnd_rt, fEnd_nx, w_Fn, w_noEx, w_arNil, karb_, kar_, w_arCons, kasb_, kas_, w_arSlot, callAt_, kBack_, kCall_, w_Call, pull_nil, pull_fz, pull_sl, pull1_ow, push_nil, push_fz, push_sl, push1_ow, outs_nil, outs_f, outs_o, gN_ap, gTp_ap, gsNil_ap, gsCons_ap, kFor_, w_For, kiR_, w_iR, kiS_l, kiS_t, kiE_l, kiE_t, kiC_s, w_iC, w_iS, w_iE, kRnd_nx, kRnd_ct, kRnd_bk, kRnd_rt, kLcB_, kLcBO_, kLc_, kLcO_, w_Lc, w_LcO, kLcT_, kLcE_, v_add, v_sub, v_mul, v_div, v_mod, v_pow, v_ltA, v_leA, v_gtA, v_geA, v_eqA, v_neA, v_eqAs, v_eqAb, v_plusI, v_max2i, v_min2i, v_one, v_lenL, v_lenT, v_intI, v_tupL, v_tupT, v_lstL, v_lstT, v_sumL, v_sumT, v_maxL, v_minL, u_isN, u_notN, v_isT, v_not, u_neg, v_slL, v_slT, v_ixL, v_ixT, v_r1, v_r2, v_mulW, v_divW, v_gcdI, v_absI, v_sumR, v_foLstT, v_foLstL, v_foLst, v_tupOf, v_lstOf, o_fz, o_ol, o_nil, o_cons, at0, at1, at2, at3, at4, at5, at6, at7, ix_1_0, ix_2_0, ix_2_1, ix_3_0, ix_3_1, ix_3_2, ix_4_0, ix_4_1, ix_4_2, ix_4_3, ix_5_0, ix_5_1, ix_5_2, ix_5_3, ix_5_4, ix_6_0, ix_6_1, ix_6_2, ix_6_3, ix_6_4, ix_6_5, ix_7_0, ix_7_1, ix_7_2, ix_7_3, ix_7_4, ix_7_5, ix_7_6, ix_8_0, ix_8_1, ix_8_2, ix_8_3, ix_8_4, ix_8_5, ix_8_6, ix_8_7, ix_9_0, ix_9_1, ix_9_2, ix_9_3, ix_9_4, ix_9_5, ix_9_6, ix_9_7, ix_9_8, ix_10_0, ix_10_1, ix_10_2, ix_10_3, ix_10_4, ix_10_5, ix_10_6, ix_10_7, ix_10_8, ix_10_9, ix_11_0, ix_11_1, ix_11_2, ix_11_3, ix_11_4, ix_11_5, ix_11_6, ix_11_7, ix_11_8, ix_11_9, ix_11_10, ix_12_0, ix_12_1, ix_12_2, ix_12_3, ix_12_4, ix_12_5, ix_12_6, ix_12_7, ix_12_8, ix_12_9, ix_12_10, ix_12_11, isT_tuple_non, isT_tuple_bl, isT_tuple_int, isT_tuple_str, isT_tuple_tup, isT_tuple_lst, isT_int_non, isT_int_bl, isT_int_int, isT_int_str, isT_int_tup, isT_int_lst, isT_bool_non, isT_bool_bl, isT_bool_int, isT_bool_str, isT_bool_tup, isT_bool_lst, isT_str_non, isT_str_bl, isT_str_int, isT_str_str, isT_str_tup, isT_str_lst, isT_list_non, isT_list_bl, isT_list_int, isT_list_str, isT_list_tup, isT_list_lst, isN_non, isN_bl, isN_int, isN_str, isN_tup, isN_lst, at_ints, sz_iff, big_iff, div_iff, mod_iff, mul_iff, mulW_iff, divW_iff, pow_iff, List.getElem?_cons_succ, List.getElem?_cons_zero, List.set_cons_zero, List.set_cons_succ, List.cons_append, List.nil_append, List.replicate, Option.map_some, Option.bind_some, decide_eq_true_eq, decide_eq_false_iff_not, Option.some.injEq, exists_eq_left', Bool.not_eq_true', Bool.not_eq_false', Bool.not_true, Bool.not_false, Int.not_lt, Int.not_le, true_and, and_true, if_true, List.length_cons, List.length_nil, List.map_cons, List.map_nil, true_imp_iff, false_imp_iff, imp_self, imp_true_iff, not_true_eq_false, not_false_eq_true, List.length_map, Bool.false_eq_true, if_false, Bool.true_eq_false, reduceCtorEq, nos, backs, Sl.keep, decide_true, decide_false, ilist_map, O.lf, List.contains_cons, List.contains_nil, Bool.and_eq_true, beq_self_eq_true, Bool.or_false, Bool.or_true, Bool.true_or, Bool.false_or, and_self, if_pos, gAt_some, ds_fz, Nat.reduceBEq, Nat.reduceEqDiff, ite_self, rangeD_len, numbered_len, Int.toNat_natCast, Nat.reduceAdd, Int.reduceMod, Int.reduceDiv, Int.reduceLT, Int.reduceLE, Int.reduceNeg, Int.reduceMul, Int.reduceAdd, Int.reduceSub, Int.reducePow, Nat.reduceAdd, Nat.reduceLT, Nat.reduceLeDiff, Int.reduceEq, true_or, or_true, Int.reduceToNat, Int.toNat_zero, Int.toNat_one, List.length_set, List.length_append, List.length_singleton, Int.reduceAbs, Int.toNat_natCast, beq_self_eq_true]
      refine ⟨by omega, ?_⟩
      refine w_loopK (fun ds Γ => (∀ d ∈ ds, ∃ k : Nat, d = .int k ∧ k < xs.length) ∧ ∃ s, Γ = [Sl.fz (.tup xs), Sl.fz (.tup xs), s]) ⟨fun d hd => rangeD_mem hd, _, rfl⟩ ?_ ?_
      · rintro d ds Γ ⟨hd, s, rfl⟩
        obtain ⟨k, rfl, hk⟩ := hd d (List.mem_cons_self ..)
        have e1 : atI xs (k : Int) = some xs[k] := atI_nat (List.getElem?_eq_getElem hk)
        have e2 : rSame n [xs[k], xs[k]] = some (.bl true) := same_ok n _ (h.1 _ (List.getElem_mem hk))
        simp only [w_some, w_ofIf, w_ofMap, vAt_fz, w_var, w_C, k1_, w_1, k2b_, k2_, w_2, kA_, w_A, kMb_, kM_, w_M, w_aNil, kaCb_, kaC_, w_aCons, w_oNo, koAt_i, w_oAt, kSlc_, kSlb_, kSl_, w_Sl, ktB_, w_tB, bl_bl, ktT_, w_tTr, ktAnd_, w_tAnd, ktOr_, w_tOr, ktNot_, w_tNot, w_tYes, kIf_, w_If, kAnd_b, kOr_b, w_And, w_Or, ktL_, kbL_, kbF_, lentT_o, lentT_f, lentB_o, lentB_f, w_tBor, w_Bor, flat_int, flat_bl, flat_str, flat_non, kS_nx, kS_bk, kS_ct, kS_rt, w_Seq, kJ_s, w_J, w_Nx, w_Bk, w_Ct, kSet_, w_Set, kAugb_, kAugc_, kAug_, w_Aug, kParb_, kPar_, w_Par, gAt_some, kAsg_, w_Asg, kDrop_, w_Drop, kRet_, w_Ret, w_RetN, kIfS_, w_IfS, kApp_, kApp2_, appAt_, w_App, kPut_, putAt_, kPut2_, kPut3_, w_Put, w_Frz, frz_eq, frz1_ow, frz1_fz, kSetO_, w_SetO, kUp_, w_Up, kO_, w_O, dAt_, kFz_, w_Fz, rAt_ow, kRetO_, w_RetO, fEnd_rt, fEnd_nx, w_Fn, w_noEx, w_arNil, karb_, kar_, w_arCons, kasb_, kas_, w_arSlot, callAt_, kBack_, kCall_, w_Call, pull_nil, pull_fz, pull_sl, pull1_ow, push_nil, push_fz, push_sl, push1_ow, outs_nil, outs_f, outs_o, gN_ap, gTp_ap, gsNil_ap, gsCons_ap, kFor_, w_For, kiR_, w_iR, kiS_l, kiS_t, kiE_l, kiE_t, kiC_s, w_iC, w_iS, w_iE, kRnd_nx, kRnd_ct, kRnd_bk, kRnd_rt, kLcB_, kLcBO_, kLc_, kLcO_, w_Lc, w_LcO, kLcT_, kLcE_, v_add, v_sub, v_mul, v_div, v_mod, v_pow, v_ltA, v_leA, v_gtA, v_geA, v_eqA, v_neA, v_eqAs, v_eqAb, v_plusI, v_max2i, v_min2i, v_one, v_lenL, v_lenT, v_intI, v_tupL, v_tupT, v_lstL, v_lstT, v_sumL, v_sumT, v_maxL, v_minL, u_isN, u_notN, v_isT, v_not, u_neg, v_slL, v_slT, v_ixL, v_ixT, v_r1, v_r2, v_mulW, v_divW, v_gcdI, v_absI, v_sumR, v_foLstT, v_foLstL, v_foLst, v_tupOf, v_lstOf, o_fz, o_ol, o_nil, o_cons, at0, at1, at2, at3, at4, at5, at6, at7, ix_1_0, ix_2_0, ix_2_1, ix_3_0, ix_3_1, ix_3_2, ix_4_0, ix_4_1, ix_4_2, ix_4_3, ix_5_0, ix_5_1, ix_5_2, ix_5_3, ix_5_4, ix_6_0, ix_6_1, ix_6_2, ix_6_3, ix_6_4, ix_6_5, ix_7_0, ix_7_1, ix_7_2, ix_7_3, ix_7_4, ix_7_5, ix_7_6, ix_8_0, ix_8_1, ix_8_2, ix_8_3, ix_8_4, ix_8_5, ix_8_6, ix_8_7, ix_9_0, ix_9_1, ix_9_2, ix_9_3, ix_9_4, ix_9_5, ix_9_6, ix_9_7, ix_9_8, ix_10_0, ix_10_1, ix_10_2, ix_10_3, ix_10_4, ix_10_5, ix_10_6, ix_10_7, ix_10_8, ix_10_9, ix_11_0, ix_11_1, ix_11_2, ix_11_3, ix_11_4, ix_11_5, ix_11_6, ix_11_7, ix_11_8, ix_11_9, ix_11_10, ix_12_0, ix_12_1, ix_12_2, ix_12_3, ix_12_4, ix_12_5, ix_12_6, ix_12_7, ix_12_8, ix_12_9, ix_12_10, ix_12_11, isT_tuple_non, isT_tuple_bl, isT_tuple_int, isT_tuple_str, isT_tuple_tup, isT_tuple_lst, isT_int_non, isT_int_bl, isT_int_int, isT_int_str, isT_int_tup, isT_int_lst, isT_bool_non, isT_bool_bl, isT_bool_int, isT_bool_str, isT_bool_tup, isT_bool_lst, isT_str_non, isT_str_bl, isT_str_int, isT_str_str, isT_str_tup, isT_str_lst, isT_list_non, isT_list_bl, isT_list_int, isT_list_str, isT_list_tup, isT_list_lst, isN_non, isN_bl, isN_int, isN_str, isN_tup, isN_lst, at_ints, sz_iff, big_iff, div_iff, mod_iff, mul_iff, mulW_iff, divW_iff, pow_iff, List.getElem?_cons_succ, List.getElem?_cons_zero, List.set_cons_zero, List.set_cons_succ, List.cons_append, List.nil_append, List.replicate, Option.map_some, Option.bind_some, decide_eq_true_eq, decide_eq_false_iff_not, Option.some.injEq, exists_eq_left', Bool.not_eq_true', Bool.not_eq_false', Bool.not_true, Bool.not_false, Int.not_lt, Int.not_le, true_and, and_true, if_true, List.length_cons, List.length_nil, List.map_cons, List.map_nil, true_imp_iff, false_imp_iff, imp_self, imp_true_iff, not_true_eq_false, not_false_eq_true, List.length_map, Bool.false_eq_true, if_false, Bool.true_eq_false, reduceCtorEq, nos, backs, Sl.keep, decide_true, decide_false, ilist_map, O.lf, List.contains_cons, List.contains_nil, Bool.and_eq_true, beq_self_eq_true, Bool.or_false, Bool.or_true, Bool.true_or, Bool.false_or, and_self, if_pos, gAt_some, ds_fz, Nat.reduceBEq, Nat.reduceEqDiff, ite_self, rangeD_len, numbered_len, Int.toNat_natCast, Nat.reduceAdd, Int.reduceMod, Int.reduceDiv, Int.reduceLT, Int.reduceLE, Int.reduceNeg, Int.reduceMul, Int.reduceAdd, Int.reduceSub, Int.reducePow, Nat.reduceAdd, Nat.reduceLT, Nat.reduceLeDiff, Int.reduceEq, true_or, or_true, Int.reduceToNat, Int.toNat_zero, Int.toNat_one, List.length_set, List.length_append, List.length_singleton, Int.reduceAbs, e1, e2]
        exact ⟨fun d hd' => hd d (List.mem_cons_of_mem _ hd'), _, rfl⟩
      · rintro Γ ⟨hd, s, rfl⟩
        simp only [w_some, w_ofIf, w_ofMap, vAt_fz, w_var, w_C, k1_, w_1, k2b_, k2_, w_2, kA_, w_A, kMb_, kM_, w_M, w_aNil, kaCb_, kaC_, w_aCons, w_oNo, koAt_i, w_oAt, kSlc_, kSlb_, kSl_, w_Sl, ktB_, w_tB, bl_bl, ktT_, w_tTr, ktAnd_, w_tAnd, ktOr_, w_tOr, ktNot_, w_tNot, w_tYes, kIf_, w_If, kAnd_b, kOr_b, w_And, w_Or, ktL_, kbL_, kbF_, lentT_o, lentT_f, lentB_o, lentB_f, w_tBor, w_Bor, flat_int, flat_bl, flat_str, flat_non, kS_nx, kS_bk, kS_ct, kS_rt, w_Seq, kJ_s, w_J, w_Nx, w_Bk, w_Ct, kSet_, w_Set, kAugb_, kAugc_, kAug_, w_Aug, kParb_, kPar_, w_Par, gAt_some, kAsg_, w_Asg, kDrop_, w_Drop, kRet_, w_Ret, w_RetN, kIfS_, w_IfS, kApp_, kApp2_, appAt_, w_App, kPut_, putAt_, kPut2_, kPut3_, w_Put, w_Frz, frz_eq, frz1_ow, frz1_fz, kSetO_, w_SetO, kUp_, w_Up, kO_, w_O, dAt_, kFz_, w_Fz, rAt_ow, kRetO_, w_RetO, fEnd_rt, fEnd_nx, w_Fn, w_noEx, w_arNil, karb_, kar_, w_arCons, kasb_, kas_, w_arSlot, callAt_, kBack_, kCall_, w_Call, pull_nil, pull_fz, pull_sl, pull1_ow, push_nil, push_fz, push_sl, push1_ow, outs_nil, outs_f, outs_o, gN_ap, gTp_ap, gsNil_ap, gsCons_ap, kFor_, w_For, kiR_, w_iR, kiS_l, kiS_t, kiE_l, kiE_t, kiC_s, w_iC, w_iS, w_iE, kRnd_nx, kRnd_ct, kRnd_bk, kRnd_rt, kLcB_, kLcBO_, kLc_, kLcO_, w_Lc, w_LcO, kLcT_, kLcE_, v_add, v_sub, v_mul, v_div, v_mod, v_pow, v_ltA, v_leA, v_gtA, v_geA, v_eqA, v_neA, v_eqAs, v_eqAb, v_plusI, v_max2i, v_min2i, v_one, v_lenL, v_lenT, v_intI, v_tupL, v_tupT, v_lstL, v_lstT, v_sumL, v_sumT, v_maxL, v_minL, u_isN, u_notN, v_isT, v_not, u_neg, v_slL, v_slT, v_ixL, v_ixT, v_r1, v_r2, v_mulW, v_divW, v_gcdI, v_absI, v_sumR, v_foLstT, v_foLstL, v_foLst, v_tupOf, v_lstOf, o_fz, o_ol, o_nil, o_cons, at0, at1, at2, at3, at4, at5, at6, at7, ix_1_0, ix_2_0, ix_2_1, ix_3_0, ix_3_1, ix_3_2, ix_4_0, ix_4_1, ix_4_2, ix_4_3, ix_5_0, ix_5_1, ix_5_2, ix_5_3, ix_5_4, ix_6_0, ix_6_1, ix_6_2, ix_6_3, ix_6_4, ix_6_5, ix_7_0, ix_7_1, ix_7_2, ix_7_3, ix_7_4, ix_7_5, ix_7_6, ix_8_0, ix_8_1, ix_8_2, ix_8_3, ix_8_4, ix_8_5, ix_8_6, ix_8_7, ix_9_0, ix_9_1, ix_9_2, ix_9_3, ix_9_4, ix_9_5, ix_9_6, ix_9_7, ix_9_8, ix_10_0, ix_10_1, ix_10_2, ix_10_3, ix_10_4, ix_10_5, ix_10_6, ix_10_7, ix_10_8, ix_10_9, ix_11_0, ix_11_1, ix_11_2, ix_11_3, ix_11_4, ix_11_5, ix_11_6, ix_11_7, ix_11_8, ix_11_9, ix_11_10, ix_12_0, ix_12_1, ix_12_2, ix_12_3, ix_12_4, ix_12_5, ix_12_6, ix_12_7, ix_12_8, ix_12_9, ix_12_10, ix_12_11, isT_tuple_non, isT_tuple_bl, isT_tuple_int, isT_tuple_str, isT_tuple_tup, isT_tuple_lst, isT_int_non, isT_int_bl, isT_int_int, isT_int_str, isT_int_tup, isT_int_lst, isT_bool_non, isT_bool_bl, isT_bool_int, isT_bool_str, isT_bool_tup, isT_bool_lst, isT_str_non, isT_str_bl, isT_str_int, isT_str_str, isT_str_tup, isT_str_lst, isT_list_non, isT_list_bl, isT_list_int, isT_list_str, isT_list_tup, isT_list_lst, isN_non, isN_bl, isN_int, isN_str, isN_tup, isN_lst, at_ints, sz_iff, big_iff, div_iff, mod_iff, mul_iff, mulW_iff, divW_iff, pow_iff, List.getElem?_cons_succ, List.getElem?_cons_zero, List.set_cons_zero, List.set_cons_succ, List.cons_append, List.nil_append, List.replicate, Option.map_some, Option.bind_some, decide_eq_true_eq, decide_eq_false_iff_not, Option.some.injEq, exists_eq_left', Bool.not_eq_true', Bool.not_eq_false', Bool.not_true, Bool.not_false, Int.not_lt, Int.not_le, true_and, and_true, if_true, List.length_cons, List.length_nil, List.map_cons, List.map_nil, true_imp_iff, false_imp_iff, imp_self, imp_true_iff, not_true_eq_false, not_false_eq_true, List.length_map, Bool.false_eq_true, if_false, Bool.true_eq_false, reduceCtorEq, nos, backs, Sl.keep, decide_true, decide_false, ilist_map, O.lf, List.contains_cons, List.contains_nil, Bool.and_eq_true, beq_self_eq_true, Bool.or_false, Bool.or_true, Bool.true_or, Bool.false_or, and_self, if_pos, gAt_some, ds_fz, Nat.reduceBEq, Nat.reduceEqDiff, ite_self, rangeD_len, numbered_len, Int.toNat_natCast, Nat.reduceAdd, Int.reduceMod, Int.reduceDiv, Int.reduceLT, Int.reduceLE, Int.reduceNeg, Int.reduceMul, Int.reduceAdd, Int.reduceSub, Int.reducePow, Nat.reduceAdd, Nat.reduceLT, Nat.reduceLeDiff, Int.reduceEq, true_or, or_true, Int.reduceToNat, Int.toNat_zero, Int.toNat_one, List.length_set, List.length_append, List.length_singleton, Int.reduceAbs]
    | int i => simp only [w_some, w_ofIf, w_ofMap, vAt_fz, w_var, w_C, k1_, w_1, k2b_, k2_, w_2, kA_, w_A, kMb_, kM_, w_M, w_aNil, kaCb_, kaC_, w_aCons, w_oNo, koAt_i, w_oAt, kSlc_, kSlb_, kSl_, w_Sl, ktB_, w_tB, bl_bl, ktT_, w_tTr, ktAnd_, w_tAnd, ktOr_, w_tOr, ktNot_, w_tNot, w_tYes, kIf_, w_If, kAnd_b, kOr_b, w_And, w_Or, ktL_, kbL_, kbF_, lentT_o, lentT_f, lentB_o, lentB_f, w_tBor, w_Bor, flat_int, flat_bl, flat_str, flat_non, kS_nx, kS_bk, kS_ct, kS_rt, w_Seq, kJ_s, w_J, w_Nx, w_Bk, w_Ct, kSet_, w_Set, kAugb_, kAugc_, kAug_, w_Aug, kParb_, kPar_, w_Par, gAt_some, kAsg_, w_Asg, kDrop_, w_Drop, kRet_, w_Ret, w_RetN, kIfS_, w_IfS, kApp_, kApp2_, appAt_, w_App, kPut_, putAt_, kPut2_, kPut3_, w_Put, w_Frz, frz_eq, frz1_ow, frz1_fz, kSetO_, w_SetO, kUp_, w_Up, kO_, w_O, dAt_, kFz_, w_Fz, rAt_ow, kRetO_, w_RetO, fEnd_rt, fEnd_nx, w_Fn, w_noEx, w_arNil, karb_, kar_, w_arCons, kasb_, kas_, w_arSlot, callAt_, kBack_, kCall_, w_Call, pull_nil, pull_fz, pull_sl, pull1_ow, push_nil, push_fz, push_sl, push1_ow, outs_nil, outs_f, outs_o, gN_ap, gTp_ap, gsNil_ap, gsCons_ap, kFor_, w_For, kiR_, w_iR, kiS_l, kiS_t, kiE_l, kiE_t, kiC_s, w_iC, w_iS, w_iE, kRnd_nx, kRnd_ct, kRnd_bk, kRnd_rt, kLcB_, kLcBO_, kLc_, kLcO_, w_Lc, w_LcO, kLcT_, kLcE_, v_add, v_sub, v_mul, v_div, v_mod, v_pow, v_ltA, v_leA, v_gtA, v_geA, v_eqA, v_neA, v_eqAs, v_eqAb, v_plusI, v_max2i, v_min2i, v_one, v_lenL, v_lenT, v_intI, v_tupL, v_tupT, v_lstL, v_lstT, v_sumL, v_sumT, v_maxL, v_minL, u_isN, u_notN, v_isT, v_not, u_neg, v_slL, v_slT, v_ixL, v_ixT, v_r1, v_r2, v_mulW, v_divW, v_gcdI, v_absI, v_sumR, v_foLstT, v_foLstL, v_foLst, v_tupOf, v_lstOf, o_fz, o_ol, o_nil, o_cons, at0, at1, at2, at3, at4, at5, at6, at7, ix_1_0, ix_2_0, ix_2_1, ix_3_0, ix_3_1, ix_3_2, ix_4_0, ix_4_1, ix_4_2, ix_4_3, ix_5_0, ix_5_1, ix_5_2, ix_5_3, ix_5_4, ix_6_0, ix_6_1, ix_6_2, ix_6_3, ix_6_4, ix_6_5, ix_7_0, ix_7_1, ix_7_2, ix_7_3, ix_7_4, ix_7_5, ix_7_6, ix_8_0, ix_8_1, ix_8_2, ix_8_3, ix_8_4, ix_8_5, ix_8_6, ix_8_7, ix_9_0, ix_9_1, ix_9_2, ix_9_3, ix_9_4, ix_9_5, ix_9_6, ix_9_7, ix_9_8, ix_10_0, ix_10_1, ix_10_2, ix_10_3, ix_10_4, ix_10_5, ix_10_6, ix_10_7, ix_10_8, ix_10_9, ix_11_0, ix_11_1, ix_11_2, ix_11_3, ix_11_4, ix_11_5, ix_11_6, ix_11_7, ix_11_8, ix_11_9, ix_11_10, ix_12_0, ix_12_1, ix_12_2, ix_12_3, ix_12_4, ix_12_5, ix_12_6, ix_12_7, ix_12_8, ix_12_9, ix_12_10, ix_12_11, isT_tuple_non, isT_tuple_bl, isT_tuple_int, isT_tuple_str, isT_tuple_tup, isT_tuple_lst, isT_int_non, isT_int_bl, isT_int_int, isT_int_str, isT_int_tup, isT_int_lst, isT_bool_non, isT_bool_bl, isT_bool_int, isT_bool_str, isT_bool_tup, isT_bool_lst, isT_str_non, isT_str_bl, isT_str_int, isT_str_str, isT_str_tup, isT_str_lst, isT_list_non, isT_list_bl, isT_list_int, isT_list_str, isT_list_tup, isT_list_lst, isN_non, isN_bl, isN_int, isN_str, isN_tup, isN_lst, at_ints, sz_iff, big_iff, div_iff, mod_iff, mul_iff, mulW_iff, divW_iff, pow_iff, List.getElem?_cons_succ, List.getElem?_cons_zero, List.set_cons_zero, List.set_cons_succ, List.cons_append, List.nil_append, List.replicate, Option.map_some, Option.bind_some, decide_eq_true_eq, decide_eq_false_iff_not, Option.some.injEq, exists_eq_left', Bool.not_eq_true', Bool.not_eq_false', Bool.not_true, Bool.not_false, Int.not_lt, Int.not_le, true_and, and_true, if_true, List.length_cons, List.length_nil, List.map_cons, List.map_nil, true_imp_iff, false_imp_iff, imp_self, imp_true_iff, not_true_eq_false, not_false_eq_true, List.length_map, Bool.false_eq_true, if_false, Bool.true_eq_false, reduceCtorEq, nos, backs, Sl.keep, decide_true, decide_false, ilist_map, O.lf, List.contains_cons, List.contains_nil, Bool.and_eq_true, beq_self_eq_true, Bool.or_false, Bool.or_true, Bool.true_or, Bool.false_or, and_self, if_pos, gAt_some, ds_fz, Nat.reduceBEq, Nat.reduceEqDiff, ite_self, rangeD_len, numbered_len, Int.toNat_natCast, Nat.reduceAdd, Int.reduceMod, Int.reduceDiv, Int.reduceLT, Int.reduceLE, Int.reduceNeg, Int.reduceMul, Int.reduceAdd, Int.reduceSub, Int.reducePow, Nat.reduceAdd, Nat.reduceLT, Nat.reduceLeDiff, Int.reduceEq, true_or, or_true, Int.reduceToNat, Int.toNat_zero, Int.toNat_one, List.length_set, List.length_append, List.length_singleton, Int.reduceAbs]
    | str i => simp only [w_some, w_ofIf, w_ofMap, vAt_fz, w_var, w_C, k1_, w_1, k2b_, k2_, w_2, kA_, w_A, kMb_, kM_, w_M, w_aNil, kaCb_, kaC_, w_aCons, w_oNo, koAt_i, w_oAt, kSlc_, kSlb_, kSl_, w_Sl, ktB_, w_tB, bl_bl, ktT_, w_tTr, ktAnd_, w_tAnd, ktOr_, w_tOr, ktNot_, w_tNot, w_tYes, kIf_, w_If, kAnd_b, kOr_b, w_And, w_Or, ktL_, kbL_, kbF_, lentT_o, lentT_f, lentB_o, lentB_f, w_tBor, w_Bor, flat_int, flat_bl, flat_str, flat_non, kS_nx, kS_bk, kS_ct, kS_rt, w_Seq, kJ_s, w_J, w_Nx, w_Bk, w_Ct, kSet_, w_Set, kAugb_, kAugc_, kAug_, w_Aug, kParb_, kPar_, w_Par, gAt_some, kAsg_, w_Asg, kDrop_, w_Drop, kRet_, w_Ret, w_RetN, kIfS_, w_IfS, kApp_, kApp2_, appAt_, w_App, kPut_, putAt_, kPut2_, kPut3_, w_Put, w_Frz, frz_eq, frz1_ow, frz1_fz, kSetO_, w_SetO, kUp_, w_Up, kO_, w_O, dAt_, kFz_, w_Fz, rAt_ow, kRetO_, w_RetO, fEnd_rt, fEnd_nx, w_Fn, w_noEx, w_arNil, karb_, kar_, w_arCons, kasb_, kas_, w_arSlot, callAt_, kBack_, kCall_, w_Call, pull_nil, pull_fz, pull_sl, pull1_ow, push_nil, push_fz, push_sl, push1_ow, outs_nil, outs_f, outs_o, gN_ap, gTp_ap, gsNil_ap, gsCons_ap, kFor_, w_For, kiR_, w_iR, kiS_l, kiS_t, kiE_l, kiE_t, kiC_s, w_iC, w_iS, w_iE, kRnd_nx, kRnd_ct, kRnd_bk, kRnd_rt, kLcB_, kLcBO_, kLc_, kLcO_, w_Lc, w_LcO, kLcT_, kLcE_, v_add, v_sub, v_mul, v_div, v_mod, v_pow, v_ltA, v_leA, v_gtA, v_geA, v_eqA, v_neA, v_eqAs, v_eqAb, v_plusI, v_max2i, v_min2i, v_one, v_lenL, v_lenT, v_intI, v_tupL, v_tupT, v_lstL, v_lstT, v_sumL, v_sumT, v_maxL, v_minL, u_isN, u_notN, v_isT, v_not, u_neg, v_slL, v_slT, v_ixL, v_ixT, v_r1, v_r2, v_mulW, v_divW, v_gcdI, v_absI, v_sumR, v_foLstT, v_foLstL, v_foLst, v_tupOf, v_lstOf, o_fz, o_ol, o_nil, o_cons, at0, at1, at2, at3, at4, at5, at6, at7, ix_1_0, ix_2_0, ix_2_1, ix_3_0, ix_3_1, ix_3_2, ix_4_0, ix_4_1, ix_4_2, ix_4_3, ix_5_0, ix_5_1, ix_5_2, ix_5_3, ix_5_4, ix_6_0, ix_6_1, ix_6_2, ix_6_3, ix_6_4, ix_6_5, ix_7_0, ix_7_1, ix_7_2, ix_7_3, ix_7_4, ix_7_5, ix_7_6, ix_8_0, ix_8_1, ix_8_2, ix_8_3, ix_8_4, ix_8_5, ix_8_6, ix_8_7, ix_9_0, ix_9_1, ix_9_2, ix_9_3, ix_9_4, ix_9_5, ix_9_6, ix_9_7, ix_9_8, ix_10_0, ix_10_1, ix_10_2, ix_10_3, ix_10_4, ix_10_5, ix_10_6, ix_10_7, ix_10_8, ix_10_9, ix_11_0, ix_11_1, ix_11_2, ix_11_3, ix_11_4, ix_11_5, ix_11_6, ix_11_7, ix_11_8, ix_11_9, ix_11_10, ix_12_0, ix_12_1, ix_12_2, ix_12_3, ix_12_4, ix_12_5, ix_12_6, ix_12_7, ix_12_8, ix_12_9, ix_12_10, ix_12_11, isT_tuple_non, isT_tuple_bl, isT_tuple_int, isT_tuple_str, isT_tuple_tup, isT_tuple_lst, isT_int_non, isT_int_bl, isT_int_int, isT_int_str, isT_int_tup, isT_int_lst, isT_bool_non, isT_bool_bl, isT_bool_int, isT_bool_str, isT_bool_tup, isT_bool_lst, isT_str_non, isT_str_bl, isT_str_int, isT_str_str, isT_str_tup, isT_str_lst, isT_list_non, isT_list_bl, isT_list_int, isT_list_str, isT_list_tup, isT_list_lst, isN_non, isN_bl, isN_int, isN_str, isN_tup, isN_lst, at_ints, sz_iff, big_iff, div_iff, mod_iff, mul_iff, mulW_iff, divW_iff, pow_iff, List.getElem?_cons_succ, List.getElem?_cons_zero, List.set_cons_zero, List.set_cons_succ, List.cons_append, List.nil_append, List.replicate, Option.map_some, Option.bind_some, decide_eq_true_eq, decide_eq_false_iff_not, Option.some.injEq, exists_eq_left', Bool.not_eq_true', Bool.not_eq_false', Bool.not_true, Bool.not_false, Int.not_lt, Int.not_le, true_and, and_true, if_true, List.length_cons, List.length_nil, List.map_cons, List.map_nil, true_imp_iff, false_imp_iff, imp_self, imp_true_iff, not_true_eq_false, not_false_eq_true, List.length_map, Bool.false_eq_true, if_false, Bool.true_eq_false, reduceCtorEq, nos, backs, Sl.keep, decide_true, decide_false, ilist_map, O.lf, List.contains_cons, List.contains_nil, Bool.and_eq_true, beq_self_eq_true, Bool.or_false, Bool.or_true, Bool.true_or, Bool.false_or, and_self, if_pos, gAt_some, ds_fz, Nat.reduceBEq, Nat.reduceEqDiff, ite_self, rangeD_len, numbered_len, Int.toNat_natCast, Nat.reduceAdd, Int.reduceMod, Int.reduceDiv, Int.reduceLT, Int.reduceLE, Int.reduceNeg, Int.reduceMul, Int.reduceAdd, Int.reduceSub, Int.reducePow, Nat.reduceAdd, Nat.reduceLT, Nat.reduceLeDiff, Int.reduceEq, true_or, or_true, Int.reduceToNat, Int.toNat_zero, Int.toNat_one, List.length_set, List.length_append, List.length_singleton, Int.reduceAbs]
    | bl i => simp only [w_some, w_ofIf, w_ofMap, vAt_fz, w_var, w_C, k1_, w_1, k2b_, k2_, w_2, kA_, w_A, kMb_, kM_, w_M, w_aNil, kaCb_, kaC_, w_aCons, w_oNo, koAt_i, w_oAt, kSlc_, kSlb_, kSl_, w_Sl, ktB_, w_tB, bl_bl, ktT_, w_tTr, ktAnd_, w_tAnd, ktOr_, w_tOr, ktNot_, w_tNot, w_tYes, kIf_, w_If, kAnd_b, kOr_b, w_And, w_Or, ktL_, kbL_, kbF_, lentT_o, lentT_f, lentB_o, lentB_f, w_tBor, w_Bor, flat_int, flat_bl, flat_str, flat_non, kS_nx, kS_bk, kS_ct, kS_rt, w_Seq, kJ_s, w_J, w_Nx, w_Bk, w_Ct, kSet_, w_Set, kAugb_, kAugc_, kAug_, w_Aug, kParb_, kPar_, w_Par, gAt_some, kAsg_, w_Asg, kDrop_, w_Drop, kRet_, w_Ret, w_RetN, kIfS_, w_IfS, kApp_, kApp2_, appAt_, w_App, kPut_, putAt_, kPut2_, kPut3_, w_Put, w_Frz, frz_eq, frz1_ow, frz1_fz, kSetO_, w_SetO, kUp_, w_Up, kO_, w_O, dAt_, kFz_, w_Fz, rAt_ow, kRetO_, w_RetO, fEnd_rt, fEnd_nx, w_Fn, w_noEx, w_arNil, karb_, kar_, w_arCons, kasb_, kas_, w_arSlot, callAt_, kBack_, kCall_, w_Call, pull_nil, pull_fz, pull_sl, pull1_ow, push_nil, push_fz, push_sl, push1_ow, outs_nil, outs_f, outs_o, gN_ap, gTp_ap, gsNil_ap, gsCons_ap, kFor_, w_For, kiR_, w_iR, kiS_l, kiS_t, kiE_l, kiE_t, kiC_s, w_iC, w_iS, w_iE, kRnd_nx, kRnd_ct, kRnd_bk, kRnd_rt, kLcB_, kLcBO_, kLc_, kLcO_, w_Lc, w_LcO, kLcT_, kLcE_, v_add, v_sub, v_mul, v_div, v_mod, v_pow, v_ltA, v_leA, v_gtA, v_geA, v_eqA, v_neA, v_eqAs, v_eqAb, v_plusI, v_max2i, v_min2i, v_one, v_lenL, v_lenT, v_intI, v_tupL, v_tupT, v_lstL, v_lstT, v_sumL, v_sumT, v_maxL, v_minL, u_isN, u_notN, v_isT, v_not, u_neg, v_slL, v_slT, v_ixL, v_ixT, v_r1, v_r2, v_mulW, v_divW, v_gcdI, v_absI, v_sumR, v_foLstT, v_foLstL, v_foLst, v_tupOf, v_lstOf, o_fz, o_ol, o_nil, o_cons, at0, at1, at2, at3, at4, at5, at6, at7, ix_1_0, ix_2_0, ix_2_1, ix_3_0, ix_3_1, ix_3_2, ix_4_0, ix_4_1, ix_4_2, ix_4_3, ix_5_0, ix_5_1, ix_5_2, ix_5_3, ix_5_4, ix_6_0, ix_6_1, ix_6_2, ix_6_3, ix_6_4, ix_6_5, ix_7_0, ix_7_1, ix_7_2, ix_7_3, ix_7_4, ix_7_5, ix_7_6, ix_8_0, ix_8_1, ix_8_2, ix_8_3, ix_8_4, ix_8_5, ix_8_6, ix_8_7, ix_9_0, ix_9_1, ix_9_2, ix_9_3, ix_9_4, ix_9_5, ix_9_6, ix_9_7, ix_9_8, ix_10_0, ix_10_1, ix_10_2, ix_10_3, ix_10_4, ix_10_5, ix_10_6, ix_10_7, ix_10_8, ix_10_9, ix_11_0, ix_11_1, ix_11_2, ix_11_3, ix_11_4, ix_11_5, ix_11_6, ix_11_7, ix_11_8, ix_11_9, ix_11_10, ix_12_0, ix_12_1, ix_12_2, ix_12_3, ix_12_4, ix_12_5, ix_12_6, ix_12_7, ix_12_8, ix_12_9, ix_12_10, ix_12_11, isT_tuple_non, isT_tuple_bl, isT_tuple_int, isT_tuple_str, isT_tuple_tup, isT_tuple_lst, isT_int_non, isT_int_bl, isT_int_int, isT_int_str, isT_int_tup, isT_int_lst, isT_bool_non, isT_bool_bl, isT_bool_int, isT_bool_str, isT_bool_tup, isT_bool_lst, isT_str_non, isT_str_bl, isT_str_int, isT_str_str, isT_str_tup, isT_str_lst, isT_list_non, isT_list_bl, isT_list_int, isT_list_str, isT_list_tup, isT_list_lst, isN_non, isN_bl, isN_int, isN_str, isN_tup, isN_lst, at_ints, sz_iff, big_iff, div_iff, mod_iff, mul_iff, mulW_iff, divW_iff, pow_iff, List.getElem?_cons_succ, List.getElem?_cons_zero, List.set_cons_zero, List.set_cons_succ, List.cons_append, List.nil_append, List.replicate, Option.map_some, Option.bind_some, decide_eq_true_eq, decide_eq_false_iff_not, Option.some.injEq, exists_eq_left', Bool.not_eq_true', Bool.not_eq_false', Bool.not_true, Bool.not_false, Int.not_lt, Int.not_le, true_and, and_true, if_true, List.length_cons, List.length_nil, List.map_cons, List.map_nil, true_imp_iff, false_imp_iff, imp_self, imp_true_iff, not_true_eq_false, not_false_eq_true, List.length_map, Bool.false_eq_true, if_false, Bool.true_eq_false, reduceCtorEq, nos, backs, Sl.keep, decide_true, decide_false, ilist_map, O.lf, List.contains_cons, List.contains_nil, Bool.and_eq_true, beq_self_eq_true, Bool.or_false, Bool.or_true, Bool.true_or, Bool.false_or, and_self, if_pos, gAt_some, ds_fz, Nat.reduceBEq, Nat.reduceEqDiff, ite_self, rangeD_len, numbered_len, Int.toNat_natCast, Nat.reduceAdd, Int.reduceMod, Int.reduceDiv, Int.reduceLT, Int.reduceLE, Int.reduceNeg, Int.reduceMul, Int.reduceAdd, Int.reduceSub, Int.reducePow, Nat.reduceAdd, Nat.reduceLT, Nat.reduceLeDiff, Int.reduceEq, true_or, or_true, Int.reduceToNat, Int.toNat_zero, Int.toNat_one, List.length_set, List.length_append, List.length_singleton, Int.reduceAbs]
    | non => simp only [w_some, w_ofIf, w_ofMap, vAt_fz, w_var, w_C, k1_, w_1, k2b_, k2_, w_2, kA_, w_A, kMb_, kM_, w_M, w_aNil, kaCb_, kaC_, w_aCons, w_oNo, koAt_i, w_oAt, kSlc_, kSlb_, kSl_, w_Sl, ktB_, w_tB, bl_bl, ktT_, w_tTr, ktAnd_, w_tAnd, ktOr_, w_tOr, ktNot_, w_tNot, w_tYes, kIf_, w_If, kAnd_b, kOr_b, w_And, w_Or, ktL_, kbL_, kbF_, lentT_o, lentT_f, lentB_o, lentB_f, w_tBor, w_Bor, flat_int, flat_bl, flat_str, flat_non, kS_nx, kS_bk, kS_ct, kS_rt, w_Seq, kJ_s, w_J, w_Nx, w_Bk, w_Ct, kSet_, w_Set, kAugb_, kAugc_, kAug_, w_Aug, kParb_, kPar_, w_Par, gAt_some, kAsg_, w_Asg, kDrop_, w_Drop, kRet_, w_Ret, w_RetN, kIfS_, w_IfS, kApp_, kApp2_, appAt_, w_App, kPut_, putAt_, kPut2_, kPut3_, w_Put, w_Frz, frz_eq, frz1_ow, frz1_fz, kSetO_, w_SetO, kUp_, w_Up, kO_, w_O, dAt_, kFz_, w_Fz, rAt_ow, kRetO_, w_RetO, fEnd_rt, fEnd_nx, w_Fn, w_noEx, w_arNil, karb_, kar_, w_arCons, kasb_, kas_, w_arSlot, callAt_, kBack_, kCall_, w_Call, pull_nil, pull_fz, pull_sl, pull1_ow, push_nil, push_fz, push_sl, push1_ow, outs_nil, outs_f, outs_o, gN_ap, gTp_ap, gsNil_ap, gsCons_ap, kFor_, w_For, kiR_, w_iR, kiS_l, kiS_t, kiE_l, kiE_t, kiC_s, w_iC, w_iS, w_iE, kRnd_nx, kRnd_ct, kRnd_bk, kRnd_rt, kLcB_, kLcBO_, kLc_, kLcO_, w_Lc, w_LcO, kLcT_, kLcE_, v_add, v_sub, v_mul, v_div, v_mod, v_pow, v_ltA, v_leA, v_gtA, v_geA, v_eqA, v_neA, v_eqAs, v_eqAb, v_plusI, v_max2i, v_min2i, v_one, v_lenL, v_lenT, v_intI, v_tupL, v_tupT, v_lstL, v_lstT, v_sumL, v_sumT, v_maxL, v_minL, u_isN, u_notN, v_isT, v_not, u_neg, v_slL, v_slT, v_ixL, v_ixT, v_r1, v_r2, v_mulW, v_divW, v_gcdI, v_absI, v_sumR, v_foLstT, v_foLstL, v_foLst, v_tupOf, v_lstOf, o_fz, o_ol, o_nil, o_cons, at0, at1, at2, at3, at4, at5, at6, at7, ix_1_0, ix_2_0, ix_2_1, ix_3_0, ix_3_1, ix_3_2, ix_4_0, ix_4_1, ix_4_2, ix_4_3, ix_5_0, ix_5_1, ix_5_2, ix_5_3, ix_5_4, ix_6_0, ix_6_1, ix_6_2, ix_6_3, ix_6_4, ix_6_5, ix_7_0, ix_7_1, ix_7_2, ix_7_3, ix_7_4, ix_7_5, ix_7_6, ix_8_0, ix_8_1, ix_8_2, ix_8_3, ix_8_4, ix_8_5, ix_8_6, ix_8_7, ix_9_0, ix_9_1, ix_9_2, ix_9_3, ix_9_4, ix_9_5, ix_9_6, ix_9_7, ix_9_8, ix_10_0, ix_10_1, ix_10_2, ix_10_3, ix_10_4, ix_10_5, ix_10_6, ix_10_7, ix_10_8, ix_10_9, ix_11_0, ix_11_1, ix_11_2, ix_11_3, ix_11_4, ix_11_5, ix_11_6, ix_11_7, ix_11_8, ix_11_9, ix_11_10, ix_12_0, ix_12_1, ix_12_2, ix_12_3, ix_12_4, ix_12_5, ix_12_6, ix_12_7, ix_12_8, ix_12_9, ix_12_10, ix_12_11, isT_tuple_non, isT_tuple_bl, isT_tuple_int, isT_tuple_str, isT_tuple_tup, isT_tuple_lst, isT_int_non, isT_int_bl, isT_int_int, isT_int_str, isT_int_tup, isT_int_lst, isT_bool_non, isT_bool_bl, isT_bool_int, isT_bool_str, isT_bool_tup, isT_bool_lst, isT_str_non, isT_str_bl, isT_str_int, isT_str_str, isT_str_tup, isT_str_lst, isT_list_non, isT_list_bl, isT_list_int, isT_list_str, isT_list_tup, isT_list_lst, isN_non, isN_bl, isN_int, isN_str, isN_tup, isN_lst, at_ints, sz_iff, big_iff, div_iff, mod_iff, mul_iff, mulW_iff, divW_iff, pow_iff, List.getElem?_cons_succ, List.getElem?_cons_zero, List.set_cons_zero, List.set_cons_succ, List.cons_append, List.nil_append, List.replicate, Option.map_some, Option.bind_some, decide_eq_true_eq, decide_eq_false_iff_not, Option.some.injEq, exists_eq_left', Bool.not_eq_true', Bool.not_eq_false', Bool.not_true, Bool.not_false, Int.not_lt, Int.not_le, true_and, and_true, if_true, List.length_cons, List.length_nil, List.map_cons, List.map_nil, true_imp_iff, false_imp_iff, imp_self, imp_true_iff, not_true_eq_false, not_false_eq_true, List.length_map, Bool.false_eq_true, if_false, Bool.true_eq_false, reduceCtorEq, nos, backs, Sl.keep, decide_true, decide_false, ilist_map, O.lf, List.contains_cons, List.contains_nil, Bool.and_eq_true, beq_self_eq_true, Bool.or_false, Bool.or_true, Bool.true_or, Bool.false_or, and_self, if_pos, gAt_some, ds_fz, Nat.reduceBEq, Nat.reduceEqDiff, ite_self, rangeD_len, numbered_len, Int.toNat_natCast, Nat.reduceAdd, Int.reduceMod, Int.reduceDiv, Int.reduceLT, Int.reduceLE, Int.reduceNeg, Int.reduceMul, Int.reduceAdd, Int.reduceSub, Int.reducePow, Nat.reduceAdd, Nat.reduceLT, Nat.reduceLeDiff, Int.reduceEq, true_or, or_true, Int.reduceToNat, Int.toNat_zero, Int.toNat_one, List.length_set, List.length_append, List.length_singleton, Int.reduceAbs]
    | _ => cases h
theorem draw_wp {o : O} {m : Int} {k : O → Ga → Prop} (ho : FeedOk o) (h0 : 0 < m) (h1 : m < 1073741824) (q : ∀ x o', 0 ≤ x → x < m → FeedOk o' → k (.fz (.int x)) [.ow (some 0) o', .fz (.int m)]) : Wp (mDraw [.ow (some 0) o, .fz (.int m)]) k nE :=
  w_mono (draw_ok ho h0 h1) fun r Γ ⟨x, o', e1, h2, h3, h4, e2⟩ => by subst e1 e2; exact q x o' h2 h3 h4
end DL
end
section
set_option Elab.async false
set_option linter.all false
set_option maxRecDepth 100000
/-! DLW: words. -/
namespace DL
open PySem L2
theorem str_ext {a b : Str} (h : a.cps.toList = b.cps.toList) : a = b := by
  cases a; cases b; simp only at h; congr; exact Array.ext' h
theorem cps_app (a b : Str) : (a ++ b).cps.toList = a.cps.toList ++ b.cps.toList := by
  show (Str.append a b).cps.toList = _
  simp [Str.append]
theorem len_eq (a : Str) : a.length = a.cps.toList.length := by simp [Str.length]
theorem len_app (a b : Str) : (a ++ b).length = a.length + b.length := by rw [len_eq, cps_app, List.length_append, ← len_eq, ← len_eq]
theorem cps_cut (z : Str) (lo hi : Option Int) : (cutS z lo hi).cps.toList = cutD z.cps.toList lo hi := by
  unfold cutS cutD
  simp [len_eq]
theorem inV_strs (s : Str) (ws : List Str) : inV (.str s) (ws.map V.str) = decide (s ∈ ws) := by
  unfold inV
  induction ws with
  | nil => simp
  | cons w ws ih =>
    simp only [List.map_cons, List.any_cons, ih]
    rw [show eqV (.str w) (.str s) = decide (w = s) from rfl]
    by_cases h : w = s <;> by_cases h2 : s ∈ ws <;> simp [h, h2, eq_comm]
    exact fun q => h q.symm
theorem avs_strs : ∀ ws : List Str, avs (ws.map D.str) = some (ws.map V.str)
  | [] => rfl
  | w :: ws => by simp [avs, D.av, avs_strs ws]
theorem in_strs {neg : Bool} {s : Str} {ws : List Str} : oIn neg (.str s) (.lst (ws.map D.str)) = some (.bl (if neg then !decide (s ∈ ws) else decide (s ∈ ws))) := by
  show inW neg (.str s) (ws.map D.str) = _
  unfold inW
  rw [avs_strs]
  simp only [D.av, Option.bind_some, Option.map_some, inV_strs]
def abc : Str := "abcdefghijklmnopqrstuvwxyz"
theorem abc_cps : abc.cps.toList = (List.range 26).map (97 + ·) := by decide +kernel
theorem abc_get {k : Nat} {d : D} (h : (signs abc)[k]? = some d) : k < 26 ∧ d = .str ⟨#[97 + k]⟩ := by
  unfold signs at h
  rw [abc_cps] at h
  simp only [List.getElem?_map, Option.map_eq_some_iff] at h
  obtain ⟨c, ⟨j, hj, rfl⟩, rfl⟩ := h
  have := List.getElem?_eq_some_iff.mp hj
  simp at this
  obtain ⟨h1, rfl⟩ := this
  exact ⟨h1, rfl⟩
def lett2 (j k : Nat) : Str := ⟨#[97 + j]⟩ ++ ⟨#[97 + k]⟩
theorem lett2_cps (j k : Nat) : (lett2 j k).cps.toList = [97 + j, 97 + k] := by unfold lett2; rw [cps_app]; rfl
theorem two_all {ws : List Str} (h : ∀ j k, j < 26 → k < 26 → lett2 j k ∈ ws) : 676 ≤ ws.length := by
  have nd : ((List.range 676).map fun n => lett2 (n / 26) (n % 26)).Nodup := by
    unfold List.Nodup
    rw [List.pairwise_map]
    refine List.Pairwise.imp ?_ List.nodup_range
    intro a b hab e
    have e2 := congrArg (fun s => s.cps.toList) e
    simp only [lett2_cps, List.cons.injEq, and_true] at e2
    apply hab
    omega
  have := nd.length_le_of_subset (l₂ := ws) fun x hx => by
    obtain ⟨n, hn, rfl⟩ := List.mem_map.mp hx
    have := List.mem_range.mp hn
    exact h _ _ (by omega) (by omega)
  simpa using this
/-- small letters -/
def Let (s : Str) : Prop := ∀ c ∈ s.cps.toList, 97 ≤ c ∧ c ≤ 122
def Word (s : Str) : Prop := 1 ≤ s.length ∧ s.length ≤ 8 ∧ Let s
theorem Let.app {a b : Str} (ha : Let a) (hb : Let b) : Let (a ++ b) := fun c hc => by
  rw [cps_app] at hc
  exact (List.mem_append.mp hc).elim (ha c) (hb c)
theorem Let.cut {a : Str} (ha : Let a) (lo hi : Option Int) : Let (cutS a lo hi) := fun c hc => by
  rw [cps_cut] at hc
  unfold cutD at hc
  exact ha c (List.mem_of_mem_drop (List.mem_of_mem_take hc))
theorem Let.ok {a : Str} (ha : Let a) : PyData.strOk a = true := by
  unfold PyData.strOk
  rw [Array.all_eq_true']
  intro c hc
  have := ha c (by simpa using hc)
  simp; omega
theorem word_two {j k : Nat} (hj : j < 26) (hk : k < 26) : Word (lett2 j k) := by
  refine ⟨?_, ?_, fun c hc => ?_⟩
  · rw [len_eq, lett2_cps]; simp
  · rw [len_eq, lett2_cps]; simp
  · rw [lett2_cps] at hc
    simp only [List.mem_cons, List.not_mem_nil, or_false] at hc
    rcases hc with rfl | rfl <;> omega
def δUnlike : DS := (dSeq (dSet 1 (dC (.str "abcdefghijklmnopqrstuvwxyz")))
  (dSeq (dFor (diC (dVar 1)) (gN 2) (dFor (diC (dVar 1)) (gN 3) (dIfS (dtB (d2 (oIn true) (d2 oPlus (dVar 2) (dVar 3)) (dVar 0))) (dRet (d2 oPlus (dVar 2) (dVar 3))) dNx)))
  (dRet (dC (.str "zzz")))))
def mUnlike : List D → Option D := toP 1 (dFn 3 δUnlike)
theorem w_toPE {n k : Nat} {body : DS} {ds : List D} {P : D → Prop} (hn : ds.length = n) (h : Wp (dFn k body (ds.map Sl.fz)) (fun o _ => ∃ d, o = .fz d ∧ P d) nE) : ∃ d, toP n (dFn k body) ds = some d ∧ P d := by
  obtain ⟨o, Γ, e, d, rfl, hp⟩ := w_val h
  refine ⟨d, ?_, hp⟩
  unfold toP
  rw [if_pos hn, e]
theorem plus_strs {a b : Str} : oPlus (.str a) (.str b) = if sizeOk (a.length + b.length) then some (.str (a ++ b)) else none := (rfl)
theorem plus_sign {j k : Nat} : oPlus (.str ⟨#[97 + j]⟩) (.str ⟨#[97 + k]⟩) = some (.str (lett2 j k)) := by
  rw [plus_strs, if_pos (by simp only [len_eq]; rfl)]; rfl
theorem unlike_ok {ws : List Str} (hl : ws.length < 676) : ∃ w, mUnlike [.lst (ws.map D.str)] = some (.str w) ∧ Word w ∧ w ∉ ws := by
  suffices h : ∃ d, mUnlike [.lst (ws.map D.str)] = some d ∧ ∃ w, d = .str w ∧ Word w ∧ w ∉ ws by
    obtain ⟨d, e, w, rfl, hw⟩ := h
    exact ⟨w, e, hw⟩
  refine w_toPE rfl ?_
  unfold δUnlike
  rw [show ("abcdefghijklmnopqrstuvwxyz" : Str) = abc from rfl]
  simp only [w_some, w_ofIf, w_ofMap, vAt_fz, w_var, w_C, k1_, w_1, k2b_, k2_, w_2, kA_, w_A, kMb_, kM_, w_M, w_aNil, kaCb_, kaC_, w_aCons, w_oNo, koAt_i, w_oAt, kSlc_, kSlb_, kSl_, w_Sl, ktB_, w_tB, bl_bl, ktT_, w_tTr, ktAnd_, w_tAnd, ktOr_, w_tOr, ktNot_, w_tNot, w_tYes, kIf_, w_If, kAnd_b, kOr_b, w_And, w_Or, ktL_, kbL_, kbF_, lentT_o, lentT_f, lentB_o, lentB_f, w_tBor, w_Bor, flat_int, flat_bl, flat_str, flat_non, kS_nx, kS_bk, kS_ct, kS_rt, w_Seq, kJ_s, w_J, w_Nx, w_Bk, w_Ct, kSet_, w_Set, kAugb_, kAugc_, kAug_, w_Aug, kParb_, kPar_, w_Par, gAt_some, kAsg_, w_Asg, kDrop_, w_Drop, kRet_, w_Ret, w_RetN, kIfS_, w_IfS, kApp_, kApp2_, appAt_, w_App, kPut_, putAt_, kPut2_, kPut3_, w_Put, w_Frz, frz_eq, frz1_ow, frz1_fz, kSetO_, w_SetO, kUp_, w_Up, kO_, w_O, dAt_, kFz_, w_Fz, rAt_ow, kRetO_, w_RetO, fEnd_rt, fEnd_nx, w_Fn, w_noEx, w_arNil, karb_, kar_, w_arCons, kasb_, kas_, w_arSlot, callAt_, kBack_, kCall_, w_Call, pull_nil, pull_fz, pull_sl, pull1_ow, push_nil, push_fz, push_sl, push1_ow, outs_nil, outs_f, outs_o, gN_ap, gTp_ap, gsNil_ap, gsCons_ap, kFor_, w_For, kiR_, w_iR, kiS_l, kiS_t, kiE_l, kiE_t, kiC_s, w_iC, w_iS, w_iE, kRnd_nx, kRnd_ct, kRnd_bk, kRnd_rt, kLcB_, kLcBO_, kLc_, kLcO_, w_Lc, w_LcO, kLcT_, kLcE_, v_add, v_sub, v_mul, v_div, v_mod, v_pow, v_ltA, v_leA, v_gtA, v_geA, v_eqA, v_neA, v_eqAs, v_eqAb, v_plusI, v_max2i, v_min2i, v_one, v_lenL, v_lenT, v_intI, v_tupL, v_tupT, v_lstL, v_lstT, v_sumL, v_sumT, v_maxL, v_minL, u_isN, u_notN, v_isT, v_not, u_neg, v_slL, v_slT, v_ixL, v_ixT, v_r1, v_r2, v_mulW, v_divW, v_gcdI, v_absI, v_sumR, v_foLstT, v_foLstL, v_foLst, v_tupOf, v_lstOf, o_fz, o_ol, o_nil, o_cons, at0, at1, at2, at3, at4, at5, at6, at7, ix_1_0, ix_2_0, ix_2_1, ix_3_0, ix_3_1, ix_3_2, ix_4_0, ix_4_1, ix_4_2, ix_4_3, ix_5_0, ix_5_1, ix_5_2, ix_5_3, ix_5_4, ix_6_0, ix_6_1, ix_6_2, ix_6_3, ix_6_4, ix_6_5, ix_7_0, ix_7_1, ix_7_2, ix_7_3, ix_7_4, ix_7_5, ix_7_6, ix_8_0, ix_8_1, ix_8_2, ix_8_3, ix_8_4, ix_8_5, ix_8_6, ix_8_7, ix_9_0, ix_9_1, ix_9_2, ix_9_3, ix_9_4, ix_9_5, ix_9_6, ix_9_7, ix_9_8, ix_10_0, ix_10_1, ix_10_2, ix_10_3, ix_10_4, ix_10_5, ix_10_6, ix_10_7, ix_10_8, ix_10_9, ix_11_0, ix_11_1, ix_11_2, ix_11_3, ix_11_4, ix_11_5, ix_11_6, ix_11_7, ix_11_8, ix_11_9, ix_11_10, ix_12_0, ix_12_1, ix_12_2, ix_12_3, ix_12_4, ix_12_5, ix_12_6, ix_12_7, ix_12_8, ix_12_9, ix_12_10, ix_12_11, isT_tuple_non, isT_tuple_bl, isT_tuple_int, isT_tuple_str, isT_tuple_tup, isT_tuple_lst, isT_int_non, isT_int_bl, isT_int_int, isT_int_str, isT_int_tup, isT_int_lst, isT_bool_non, isT_bool_bl, isT_bool_int, isT_bool_str, isT_bool_tup, isT_bool_lst, isT_str_non, isT_str_bl, isT_str_int, isT_str_str, isT_str_tup, isT_str_lst, isT_list_non, isT_list_bl, isT_list_int, isT_list_str, isT_list_tup, isT_list_lst, isN_non, isN_bl, isN_int, isN_str, isN_tup, isN_lst, at_ints, sz_iff, big_iff, div_iff, mod_iff, mul_iff, mulW_iff, divW_iff, pow_iff, List.getElem?_cons_succ, List.getElem?_cons_zero, List.set_cons_zero, List.set_cons_succ, List.cons_append, List.nil_append, List.replicate, Option.map_some, Option.bind_some, decide_eq_true_eq, decide_eq_false_iff_not, Option.some.injEq, exists_eq_left', Bool.not_eq_true', Bool.not_eq_false', Bool.not_true, Bool.not_false, Int.not_lt, Int.not_le, true_and, and_true, if_true, List.length_cons, List.length_nil, List.map_cons, List.map_nil, true_imp_iff, false_imp_iff, imp_self, imp_true_iff, not_true_eq_false, not_false_eq_true, List.length_map, Bool.false_eq_true, if_false, Bool.true_eq_false, reduceCtorEq, nos, backs, Sl.keep, decide_true, decide_false, ilist_map, O.lf, List.contains_cons, List.contains_nil, Bool.and_eq_true, beq_self_eq_true, Bool.or_false, Bool.or_true, Bool.true_or, Bool.false_or, and_self, if_pos, gAt_some, ds_fz, Nat.reduceBEq, Nat.reduceEqDiff, ite_self, rangeD_len, numbered_len, Int.toNat_natCast, Nat.reduceAdd, Int.reduceMod, Int.reduceDiv, Int.reduceLT, Int.reduceLE, Int.reduceNeg, Int.reduceMul, Int.reduceAdd, Int.reduceSub, Int.reducePow, Nat.reduceAdd, Nat.reduceLT, Nat.reduceLeDiff, Int.reduceEq, true_or, or_true, Int.reduceToNat, Int.toNat_zero, Int.toNat_one, List.length_set, List.length_append, List.length_singleton, Int.reduceAbs]
  refine w_loopN (fun j Γ => ∃ s2 s3, (∀ a k, a < j → k < 26 → lett2 a k ∈ ws) ∧ Γ = [Sl.fz (.lst (ws.map D.str)), .fz (.str abc), s2, s3]) ⟨_, _, fun a k ha => absurd ha (Nat.not_lt_zero _), rfl⟩ ?_ ?_
  · rintro j d Γ hd ⟨s2, s3, hj, rfl⟩
    obtain ⟨hj26, rfl⟩ := abc_get hd
    simp only [w_some, w_ofIf, w_ofMap, vAt_fz, w_var, w_C, k1_, w_1, k2b_, k2_, w_2, kA_, w_A, kMb_, kM_, w_M, w_aNil, kaCb_, kaC_, w_aCons, w_oNo, koAt_i, w_oAt, kSlc_, kSlb_, kSl_, w_Sl, ktB_, w_tB, bl_bl, ktT_, w_tTr, ktAnd_, w_tAnd, ktOr_, w_tOr, ktNot_, w_tNot, w_tYes, kIf_, w_If, kAnd_b, kOr_b, w_And, w_Or, ktL_, kbL_, kbF_, lentT_o, lentT_f, lentB_o, lentB_f, w_tBor, w_Bor, flat_int, flat_bl, flat_str, flat_non, kS_nx, kS_bk, kS_ct, kS_rt, w_Seq, kJ_s, w_J, w_Nx, w_Bk, w_Ct, kSet_, w_Set, kAugb_, kAugc_, kAug_, w_Aug, kParb_, kPar_, w_Par, gAt_some, kAsg_, w_Asg, kDrop_, w_Drop, kRet_, w_Ret, w_RetN, kIfS_, w_IfS, kApp_, kApp2_, appAt_, w_App, kPut_, putAt_, kPut2_, kPut3_, w_Put, w_Frz, frz_eq, frz1_ow, frz1_fz, kSetO_, w_SetO, kUp_, w_Up, kO_, w_O, dAt_, kFz_, w_Fz, rAt_ow, kRetO_, w_RetO, fEnd_rt, fEnd_nx, w_Fn, w_noEx, w_arNil, karb_, kar_, w_arCons, kasb_, kas_, w_arSlot, callAt_, kBack_, kCall_, w_Call, pull_nil, pull_fz, pull_sl, pull1_ow, push_nil, push_fz, push_sl, push1_ow, outs_nil, outs_f, outs_o, gN_ap, gTp_ap, gsNil_ap, gsCons_ap, kFor_, w_For, kiR_, w_iR, kiS_l, kiS_t, kiE_l, kiE_t, kiC_s, w_iC, w_iS, w_iE, kRnd_nx, kRnd_ct, kRnd_bk, kRnd_rt, kLcB_, kLcBO_, kLc_, kLcO_, w_Lc, w_LcO, kLcT_, kLcE_, v_add, v_sub, v_mul, v_div, v_mod, v_pow, v_ltA, v_leA, v_gtA, v_geA, v_eqA, v_neA, v_eqAs, v_eqAb, v_plusI, v_max2i, v_min2i, v_one, v_lenL, v_lenT, v_intI, v_tupL, v_tupT, v_lstL, v_lstT, v_sumL, v_sumT, v_maxL, v_minL, u_isN, u_notN, v_isT, v_not, u_neg, v_slL, v_slT, v_ixL, v_ixT, v_r1, v_r2, v_mulW, v_divW, v_gcdI, v_absI, v_sumR, v_foLstT, v_foLstL, v_foLst, v_tupOf, v_lstOf, o_fz, o_ol, o_nil, o_cons, at0, at1, at2, at3, at4, at5, at6, at7, ix_1_0, ix_2_0, ix_2_1, ix_3_0, ix_3_1, ix_3_2, ix_4_0, ix_4_1, ix_4_2, ix_4_3, ix_5_0, ix_5_1, ix_5_2, ix_5_3, ix_5_4, ix_6_0, ix_6_1, ix_6_2, ix_6_3, ix_6_4, ix_6_5, ix_7_0, ix_7_1, ix_7_2, ix_7_3, ix_7_4, ix_7_5, ix_7_6, ix_8_0, ix_8_1, ix_8_2, ix_8_3, ix_8_4, ix_8_5, ix_8_6, ix_8_7, ix_9_0, ix_9_1, ix_9_2, ix_9_3, ix_9_4, ix_9_5, ix_9_6, ix_9_7, ix_9_8, ix_10_0, ix_10_1, ix_10_2, ix_10_3, ix_10_4, ix_10_5, ix_10_6, ix_10_7, ix_10_8, ix_10_9, ix_11_0, ix_11_1, ix_11_2, ix_11_3, ix_11_4, ix_11_5, ix_11_6, ix_11_7, ix_11_8, ix_11_9, ix_11_10, ix_12_0, ix_12_1, ix_12_2, ix_12_3, ix_12_4, ix_12_5, ix_12_6, ix_12_7, ix_12_8, ix_12_9, ix_12_10, ix_12_11, isT_tuple_non, isT_tuple_bl, isT_tuple_int, isT_tuple_str, isT_tuple_tup, isT_tuple_lst, isT_int_non, isT_int_bl, isT_int_int, isT_int_str, isT_int_tup, isT_int_lst, isT_bool_non, isT_bool_bl, isT_bool_int, isT_bool_str, isT_bool_tup, isT_bool_lst, isT_str_non, isT_str_bl, isT_str_int, isT_str_str, isT_str_tup, isT_str_lst, isT_list_non, isT_list_bl, isT_list_int, isT_list_str, isT_list_tup, isT_list_lst, isN_non, isN_bl, isN_int, isN_str, isN_tup, isN_lst, at_ints, sz_iff, big_iff, div_iff, mod_iff, mul_iff, mulW_iff, divW_iff, pow_iff, List.getElem?_cons_succ, List.getElem?_cons_zero, List.set_cons_zero, List.set_cons_succ, List.cons_append, List.nil_append, List.replicate, Option.map_some, Option.bind_some, decide_eq_true_eq, decide_eq_false_iff_not, Option.some.injEq, exists_eq_left', Bool.not_eq_true', Bool.not_eq_false', Bool.not_true, Bool.not_false, Int.not_lt, Int.not_le, true_and, and_true, if_true, List.length_cons, List.length_nil, List.map_cons, List.map_nil, true_imp_iff, false_imp_iff, imp_self, imp_true_iff, not_true_eq_false, not_false_eq_true, List.length_map, Bool.false_eq_true, if_false, Bool.true_eq_false, reduceCtorEq, nos, backs, Sl.keep, decide_true, decide_false, ilist_map, O.lf, List.contains_cons, List.contains_nil, Bool.and_eq_true, beq_self_eq_true, Bool.or_false, Bool.or_true, Bool.true_or, Bool.false_or, and_self, if_pos, gAt_some, ds_fz, Nat.reduceBEq, Nat.reduceEqDiff, ite_self, rangeD_len, numbered_len, Int.toNat_natCast, Nat.reduceAdd, Int.reduceMod, Int.reduceDiv, Int.reduceLT, Int.reduceLE, Int.reduceNeg, Int.reduceMul, Int.reduceAdd, Int.reduceSub, Int.reducePow, Nat.reduceAdd, Nat.reduceLT, Nat.reduceLeDiff, Int.reduceEq, true_or, or_true, Int.reduceToNat, Int.toNat_zero, Int.toNat_one, List.length_set, List.length_append, List.length_singleton, Int.reduceAbs]
    refine w_loopN (fun k Γ => ∃ s3, (∀ b, b < k → lett2 j b ∈ ws) ∧ Γ = [Sl.fz (.lst (ws.map D.str)), .fz (.str abc), .fz (.str ⟨#[97 + j]⟩), s3]) ⟨_, fun b hb => absurd hb (Nat.not_lt_zero _), rfl⟩ ?_ ?_
    · rintro k d Γ hd ⟨s3, hk, rfl⟩
      obtain ⟨hk26, rfl⟩ := abc_get hd
      simp only [w_some, w_ofIf, w_ofMap, vAt_fz, w_var, w_C, k1_, w_1, k2b_, k2_, w_2, kA_, w_A, kMb_, kM_, w_M, w_aNil, kaCb_, kaC_, w_aCons, w_oNo, koAt_i, w_oAt, kSlc_, kSlb_, kSl_, w_Sl, ktB_, w_tB, bl_bl, ktT_, w_tTr, ktAnd_, w_tAnd, ktOr_, w_tOr, ktNot_, w_tNot, w_tYes, kIf_, w_If, kAnd_b, kOr_b, w_And, w_Or, ktL_, kbL_, kbF_, lentT_o, lentT_f, lentB_o, lentB_f, w_tBor, w_Bor, flat_int, flat_bl, flat_str, flat_non, kS_nx, kS_bk, kS_ct, kS_rt, w_Seq, kJ_s, w_J, w_Nx, w_Bk, w_Ct, kSet_, w_Set, kAugb_, kAugc_, kAug_, w_Aug, kParb_, kPar_, w_Par, gAt_some, kAsg_, w_Asg, kDrop_, w_Drop, kRet_, w_Ret, w_RetN, kIfS_, w_IfS, kApp_, kApp2_, appAt_, w_App, kPut_, putAt_, kPut2_, kPut3_, w_Put, w_Frz, frz_eq, frz1_ow, frz1_fz, kSetO_, w_SetO, kUp_, w_Up, kO_, w_O, dAt_, kFz_, w_Fz, rAt_ow, kRetO_, w_RetO, fEnd_rt, fEnd_nx, w_Fn, w_noEx, w_arNil, karb_, kar_, w_arCons, kasb_, kas_, w_arSlot, callAt_, kBack_, kCall_, w_Call, pull_nil, pull_fz, pull_sl, pull1_ow, push_nil, push_fz, push_sl, push1_ow, outs_nil, outs_f, outs_o, gN_ap, gTp_ap, gsNil_ap, gsCons_ap, kFor_, w_For, kiR_, w_iR, kiS_l, kiS_t, kiE_l, kiE_t, kiC_s, w_iC, w_iS, w_iE, kRnd_nx, kRnd_ct, kRnd_bk, kRnd_rt, kLcB_, kLcBO_, kLc_, kLcO_, w_Lc, w_LcO, kLcT_, kLcE_, v_add, v_sub, v_mul, v_div, v_mod, v_pow, v_ltA, v_leA, v_gtA, v_geA, v_eqA, v_neA, v_eqAs, v_eqAb, v_plusI, v_max2i, v_min2i, v_one, v_lenL, v_lenT, v_intI, v_tupL, v_tupT, v_lstL, v_lstT, v_sumL, v_sumT, v_maxL, v_minL, u_isN, u_notN, v_isT, v_not, u_neg, v_slL, v_slT, v_ixL, v_ixT, v_r1, v_r2, v_mulW, v_divW, v_gcdI, v_absI, v_sumR, v_foLstT, v_foLstL, v_foLst, v_tupOf, v_lstOf, o_fz, o_ol, o_nil, o_cons, at0, at1, at2, at3, at4, at5, at6, at7, ix_1_0, ix_2_0, ix_2_1, ix_3_0, ix_3_1, ix_3_2, ix_4_0, ix_4_1, ix_4_2, ix_4_3, ix_5_0, ix_5_1, ix_5_2, ix_5_3, ix_5_4, ix_6_0, ix_6_1, ix_6_2, ix_6_3, ix_6_4, ix_6_5, ix_7_0, ix_7_1, ix_7_2, ix_7_3, ix_7_4, ix_7_5, ix_7_6, ix_8_0, ix_8_1, ix_8_2, ix_8_3, ix_8_4, ix_8_5, ix_8_6, ix_8_7, ix_9_0, ix_9_1, ix_9_2, ix_9_3, ix_9_4, ix_9_5, ix_9_6, ix_9_7, ix_9_8, ix_10_0, ix_10_1, ix_10_2, ix_10_3, ix_10_4, ix_10_5, ix_10_6, ix_10_7, ix_10_8, ix_10_9, ix_11_0, ix_11_1, ix_11_2, ix_11_3, ix_11_4, ix_11_5, ix_11_6, ix_11_7, ix_11_8, ix_11_9, ix_11_10, ix_12_0, ix_12_1, ix_12_2, ix_12_3, ix_12_4, ix_12_5, ix_12_6, ix_12_7, ix_12_8, ix_12_9, ix_12_10, ix_12_11, isT_tuple_non, isT_tuple_bl, isT_tuple_int, isT_tuple_str, isT_tuple_tup, isT_tuple_lst, isT_int_non, isT_int_bl, isT_int_int, isT_int_str, isT_int_tup, isT_int_lst, isT_bool_non, isT_bool_bl, isT_bool_int, isT_bool_str, isT_bool_tup, isT_bool_lst, isT_str_non, isT_str_bl, isT_str_int, isT_str_str, isT_str_tup, isT_str_lst, isT_list_non, isT_list_bl, isT_list_int, isT_list_str, isT_list_tup, isT_list_lst, isN_non, isN_bl, isN_int, isN_str, isN_tup, isN_lst, at_ints, sz_iff, big_iff, div_iff, mod_iff, mul_iff, mulW_iff, divW_iff, pow_iff, List.getElem?_cons_succ, List.getElem?_cons_zero, List.set_cons_zero, List.set_cons_succ, List.cons_append, List.nil_append, List.replicate, Option.map_some, Option.bind_some, decide_eq_true_eq, decide_eq_false_iff_not, Option.some.injEq, exists_eq_left', Bool.not_eq_true', Bool.not_eq_false', Bool.not_true, Bool.not_false, Int.not_lt, Int.not_le, true_and, and_true, if_true, List.length_cons, List.length_nil, List.map_cons, List.map_nil, true_imp_iff, false_imp_iff, imp_self, imp_true_iff, not_true_eq_false, not_false_eq_true, List.length_map, Bool.false_eq_true, if_false, Bool.true_eq_false, reduceCtorEq, nos, backs, Sl.keep, decide_true, decide_false, ilist_map, O.lf, List.contains_cons, List.contains_nil, Bool.and_eq_true, beq_self_eq_true, Bool.or_false, Bool.or_true, Bool.true_or, Bool.false_or, and_self, if_pos, gAt_some, ds_fz, Nat.reduceBEq, Nat.reduceEqDiff, ite_self, rangeD_len, numbered_len, Int.toNat_natCast, Nat.reduceAdd, Int.reduceMod, Int.reduceDiv, Int.reduceLT, Int.reduceLE, Int.reduceNeg, Int.reduceMul, Int.reduceAdd, Int.reduceSub, Int.reducePow, Nat.reduceAdd, Nat.reduceLT, Nat.reduceLeDiff, Int.reduceEq, true_or, or_true, Int.reduceToNat, Int.toNat_zero, Int.toNat_one, List.length_set, List.length_append, List.length_singleton, Int.reduceAbs, plus_sign, in_strs]
      refine ⟨fun h => ⟨_, rfl, _, rfl, word_two hj26 hk26, h⟩, fun h => ⟨_, fun b hb => ?_, rfl⟩⟩
      by_cases q : b = k
      · subst q; simpa using h
      · exact hk b (by omega)
    · rintro Γ ⟨s3, hk, rfl⟩
      have : (signs abc).length = 26 := by unfold signs; rw [abc_cps]; rfl
      rw [this] at hk
      simp only [w_some, w_ofIf, w_ofMap, vAt_fz, w_var, w_C, k1_, w_1, k2b_, k2_, w_2, kA_, w_A, kMb_, kM_, w_M, w_aNil, kaCb_, kaC_, w_aCons, w_oNo, koAt_i, w_oAt, kSlc_, kSlb_, kSl_, w_Sl, ktB_, w_tB, bl_bl, ktT_, w_tTr, ktAnd_, w_tAnd, ktOr_, w_tOr, ktNot_, w_tNot, w_tYes, kIf_, w_If, kAnd_b, kOr_b, w_And, w_Or, ktL_, kbL_, kbF_, lentT_o, lentT_f, lentB_o, lentB_f, w_tBor, w_Bor, flat_int, flat_bl, flat_str, flat_non, kS_nx, kS_bk, kS_ct, kS_rt, w_Seq, kJ_s, w_J, w_Nx, w_Bk, w_Ct, kSet_, w_Set, kAugb_, kAugc_, kAug_, w_Aug, kParb_, kPar_, w_Par, gAt_some, kAsg_, w_Asg, kDrop_, w_Drop, kRet_, w_Ret, w_RetN, kIfS_, w_IfS, kApp_, kApp2_, appAt_, w_App, kPut_, putAt_, kPut2_, kPut3_, w_Put, w_Frz, frz_eq, frz1_ow, frz1_fz, kSetO_, w_SetO, kUp_, w_Up, kO_, w_O, dAt_, kFz_, w_Fz, rAt_ow, kRetO_, w_RetO, fEnd_rt, fEnd_nx, w_Fn, w_noEx, w_arNil, karb_, kar_, w_arCons, kasb_, kas_, w_arSlot, callAt_, kBack_, kCall_, w_Call, pull_nil, pull_fz, pull_sl, pull1_ow, push_nil, push_fz, push_sl, push1_ow, outs_nil, outs_f, outs_o, gN_ap, gTp_ap, gsNil_ap, gsCons_ap, kFor_, w_For, kiR_, w_iR, kiS_l, kiS_t, kiE_l, kiE_t, kiC_s, w_iC, w_iS, w_iE, kRnd_nx, kRnd_ct, kRnd_bk, kRnd_rt, kLcB_, kLcBO_, kLc_, kLcO_, w_Lc, w_LcO, kLcT_, kLcE_, v_add, v_sub, v_mul, v_div, v_mod, v_pow, v_ltA, v_leA, v_gtA, v_geA, v_eqA, v_neA, v_eqAs, v_eqAb, v_plusI, v_max2i, v_min2i, v_one, v_lenL, v_lenT, v_intI, v_tupL, v_tupT, v_lstL, v_lstT, v_sumL, v_sumT, v_maxL, v_minL, u_isN, u_notN, v_isT, v_not, u_neg, v_slL, v_slT, v_ixL, v_ixT, v_r1, v_r2, v_mulW, v_divW, v_gcdI, v_absI, v_sumR, v_foLstT, v_foLstL, v_foLst, v_tupOf, v_lstOf, o_fz, o_ol, o_nil, o_cons, at0, at1, at2, at3, at4, at5, at6, at7, ix_1_0, ix_2_0, ix_2_1, ix_3_0, ix_3_1, ix_3_2, ix_4_0, ix_4_1, ix_4_2, ix_4_3, ix_5_0, ix_5_1, ix_5_2, ix_5_3, ix_5_4, ix_6_0, ix_6_1, ix_6_2, ix_6_3, ix_6_4, ix_6_5, ix_7_0, ix_7_1, ix_7_2, ix_7_3, ix_7_4, ix_7_5, ix_7_6, ix_8_0, ix_8_1, ix_8_2, ix_8_3, ix_8_4, ix_8_5, ix_8_6, ix_8_7, ix_9_0, ix_9_1, ix_9_2, ix_9_3, ix_9_4, ix_9_5, ix_9_6, ix_9_7, ix_9_8, ix_10_0, ix_10_1, ix_10_2, ix_10_3, ix_10_4, ix_10_5, ix_10_6, ix_10_7, ix_10_8, ix_10_9, ix_11_0, ix_11_1, ix_11_2, ix_11_3, ix_11_4, ix_11_5, ix_11_6, ix_11_7, ix_11_8, ix_11_9, ix_11_10, ix_12_0, ix_12_1, ix_12_2, ix_12_3, ix_12_4, ix_12_5, ix_12_6, ix_12_7, ix_12_8, ix_12_9, ix_12_10, ix_12_11, isT_tuple_non, isT_tuple_bl, isT_tuple_int, isT_tuple_str, isT_tuple_tup, isT_tuple_lst, isT_int_non, isT_int_bl, isT_int_int, isT_int_str, isT_int_tup, isT_int_lst, isT_bool_non, isT_bool_bl, isT_bool_int, isT_bool_str, isT_bool_tup, isT_bool_lst, isT_str_non, isT_str_bl, isT_str_int, isT_str_str, isT_str_tup, isT_str_lst, isT_list_non, isT_list_bl, isT_list_int, isT_list_str, isT_list_tup, isT_list_lst, isN_non, isN_bl, isN_int, isN_str, isN_tup, isN_lst, at_ints, sz_iff, big_iff, div_iff, mod_iff, mul_iff, mulW_iff, divW_iff, pow_iff, List.getElem?_cons_succ, List.getElem?_cons_zero, List.set_cons_zero, List.set_cons_succ, List.cons_append, List.nil_append, List.replicate, Option.map_some, Option.bind_some, decide_eq_true_eq, decide_eq_false_iff_not, Option.some.injEq, exists_eq_left', Bool.not_eq_true', Bool.not_eq_false', Bool.not_true, Bool.not_false, Int.not_lt, Int.not_le, true_and, and_true, if_true, List.length_cons, List.length_nil, List.map_cons, List.map_nil, true_imp_iff, false_imp_iff, imp_self, imp_true_iff, not_true_eq_false, not_false_eq_true, List.length_map, Bool.false_eq_true, if_false, Bool.true_eq_false, reduceCtorEq, nos, backs, Sl.keep, decide_true, decide_false, ilist_map, O.lf, List.contains_cons, List.contains_nil, Bool.and_eq_true, beq_self_eq_true, Bool.or_false, Bool.or_true, Bool.true_or, Bool.false_or, and_self, if_pos, gAt_some, ds_fz, Nat.reduceBEq, Nat.reduceEqDiff, ite_self, rangeD_len, numbered_len, Int.toNat_natCast, Nat.reduceAdd, Int.reduceMod, Int.reduceDiv, Int.reduceLT, Int.reduceLE, Int.reduceNeg, Int.reduceMul, Int.reduceAdd, Int.reduceSub, Int.reducePow, Nat.reduceAdd, Nat.reduceLT, Nat.reduceLeDiff, Int.reduceEq, true_or, or_true, Int.reduceToNat, Int.toNat_zero, Int.toNat_one, List.length_set, List.length_append, List.length_singleton, Int.reduceAbs]
      refine ⟨_, _, fun a k ha hk2 => ?_, rfl⟩
      by_cases q : a = j
      · subst q; exact hk k hk2
      · exact hj a k (by omega) hk2
  · rintro Γ ⟨s2, s3, hj, rfl⟩
    have : (signs abc).length = 26 := by unfold signs; rw [abc_cps]; rfl
    rw [this] at hj
    exact absurd (two_all hj) (by omega)
def δWords : DS := (dSeq (dSet 2 (dC (.str "abcdefghijklmnopqrstuvwxyz")))
  (dSeq (dSetO 3 (dO foLst daNil))
  (dSeq (dFor (diR oR1 (daCons (dVar 1) daNil)) (gN 4) (dSeq (dSet 5 (dJoin (dC (.str "")) (dLc (diR oR1 (daCons (d2 oPlus (dC (.int 1)) (dFz (dCall (noEx mDraw) (arSlot 0 (arCons (dC (.int 8)) arNil))))) daNil)) (gN 7) dtYes (d2 oIx (dVar 2) (dFz (dCall (noEx mDraw) (arSlot 0 (arCons (dC (.int 26)) arNil))))) [7])))
  (dSeq (dIfS (dtAnd (dtB (d2 oGtA (dVar 4) (dC (.int 0)))) (dtB (d2 oEqA (dFz (dCall (noEx mDraw) (arSlot 0 (arCons (dC (.int 3)) arNil)))) (dC (.int 0))))) (dSet 5 (dBor 3 (dSl oSl (d2 oPlus (d2 oIx (dVar 3) (d1 oNeg (dC (.int 1)))) (dVar 5)) doNo (doAt (dC (.int 8)))))) dNx)
  (dSeq (dIfS (dtAnd (dtB (d2 oGtA (dVar 4) (dC (.int 0)))) (dtB (d2 oEqA (dFz (dCall (noEx mDraw) (arSlot 0 (arCons (dC (.int 6)) arNil)))) (dC (.int 0))))) (dSeq (dSet 6 (dFz (dCall (noEx mDraw) (arSlot 0 (arCons (dBor 3 (dA (one oLen) (daCons (d2 oIx (dVar 3) (dC (.int 0))) daNil))) arNil)))))
  (dSet 5 (dBor 3 (d2 oPlus (d2 oPlus (dSl oSl (d2 oIx (dVar 3) (dC (.int 0))) doNo (doAt (dVar 6))) (d2 oIx (dVar 5) (dC (.int 0)))) (dSl oSl (d2 oIx (dVar 3) (dC (.int 0))) (doAt (d2 oPlus (dVar 6) (dC (.int 1)))) doNo))))) dNx)
  (dSeq (dIfS (dtBor 3 (dtB (d2 (oIn false) (dVar 5) (dVar 3)))) (dSet 5 (dBor 3 (dA mUnlike (daCons (dVar 3) daNil)))) dNx)
  (dApp 3 (dVar 5)))))))
  (dRetO 3))))
@[irreducible] def mWords : DOw := dFn 6 δWords
theorem ix_str {z : Str} {i : Int} : oIx (.str z) (.int i) = if sizeOk z.length then (atI z.cps.toList i).map fun c => .str ⟨#[c]⟩ else none := (rfl)
theorem sl_str {z : Str} {lo hi : Option Int} : oSl (.str z) lo hi = if sizeOk z.length then some (.str (cutS z lo hi)) else none := (rfl)
theorem len_str {z : Str} : oLen (.str z) = if sizeOk z.length then some (.int z.length) else none := (rfl)
theorem at_strs {ws : List Str} {i : Int} : atI (ws.map D.str) i = (atI ws i).map D.str := by
  unfold atI
  rw [List.length_map]
  cases h : ixN ws.length i with
  | none => rfl
  | some j => simp
theorem ds_strs (ws : List Str) : O.ds ((ws.map D.str).map O.fz) = some (ws.map D.str) := ds_fz _
theorem join0_cps (ys : List Str) : (Txt.join "" ys).cps.toList = (ys.map fun y => y.cps.toList).flatten := by
  show (Builtin.Str.glued _ _).cps.toList = _
  have e0 : ("" : Str).cps = #[] := by decide +kernel
  have go : ∀ (zs : List Str) (acc : Array Nat), (zs.foldl (fun acc p => acc ++ ("" : Str).cps ++ p.cps) acc).toList = acc.toList ++ (zs.map fun y => y.cps.toList).flatten := by
    intro zs
    induction zs with
    | nil => intro acc; simp
    | cons z zs ih => intro acc; rw [List.foldl_cons, ih]; simp [e0]
  unfold Builtin.Str.glued
  cases ys with
  | nil => simp; decide +kernel
  | cons y ys => simp only [List.headD_cons, List.drop_succ_cons, List.drop_zero, go, List.map_cons, List.flatten_cons]
theorem letter_at {x : Int} (h0 : 0 ≤ x) (h1 : x < 26) : ∃ s : Str, oIx (.str abc) (.int x) = some (.str s) ∧ Let s ∧ s.length = 1 := by
  obtain ⟨n, rfl⟩ : ∃ n : Nat, x = n := ⟨x.toNat, by omega⟩
  have hn : n < 26 := by omega
  refine ⟨⟨#[97 + n]⟩, ?_, ?_, rfl⟩
  · rw [ix_str, if_pos (by rw [len_eq, abc_cps]; decide), abc_cps, atI_nat (x := 97 + n) (by simp [hn])]
    rfl
  · intro c hc
    simp at hc
    omega
/-- the words drawn: unlike, of one to eight small letters -/
def Words (ws : List Str) : Prop := ws.Nodup ∧ ∀ w ∈ ws, Word w
theorem atI_last {α : Type} {xs : List α} (h : 0 < xs.length) : ∃ x ∈ xs, atI xs (-1) = some x := by
  refine ⟨xs[xs.length - 1], List.getElem_mem _, ?_⟩
  unfold atI ixN
  rw [if_neg (by omega), if_pos (by omega)]
  rw [show ((-1 : Int) + xs.length).toNat = xs.length - 1 by omega]
  exact List.getElem?_eq_getElem (by omega)
theorem cutD_to {α : Type} {xs : List α} {k : Int} (h : 0 ≤ k) : cutD xs none (some k) = xs.take k.toNat := by
  unfold cutD
  simp only [HT.sIx, if_neg (show ¬ k < 0 by omega), Nat.sub_zero, List.drop_zero]
  rcases Nat.le_total k.toNat xs.length with q | q
  · rw [Nat.min_eq_left q]
  · rw [Nat.min_eq_right q, List.take_of_length_le (Nat.le_refl _), List.take_of_length_le q]
theorem cutD_from {α : Type} {xs : List α} {k : Int} (h : 0 ≤ k) : cutD xs (some k) none = xs.drop k.toNat := by
  unfold cutD
  simp only [HT.sIx, if_neg (show ¬ k < 0 by omega)]
  rcases Nat.le_total k.toNat xs.length with q | q
  · rw [Nat.min_eq_left q]
    exact List.take_of_length_le (by simp)
  · rw [Nat.min_eq_right q, List.drop_of_length_le (Nat.le_refl _), List.drop_of_length_le q]; simp
theorem cps_to {z : Str} {k : Int} (h : 0 ≤ k) : (cutS z none (some k)).cps.toList = z.cps.toList.take k.toNat := by rw [cps_cut, cutD_to h]
theorem cps_from {z : Str} {k : Int} (h : 0 ≤ k) : (cutS z (some k) none).cps.toList = z.cps.toList.drop k.toNat := by rw [cps_cut, cutD_from h]
theorem len_to {z : Str} {k : Int} (h : 0 ≤ k) : (cutS z none (some k)).length = min k.toNat z.length := by rw [len_eq, cps_to h, List.length_take, ← len_eq]
theorem len_from {z : Str} {k : Int} (h : 0 ≤ k) : (cutS z (some k) none).length = z.length - k.toNat := by rw [len_eq, cps_from h, List.length_drop, ← len_eq]
theorem flat1 : ∀ {ss : List Str}, (∀ s ∈ ss, Let s ∧ s.length = 1) → ((ss.map fun y => y.cps.toList).flatten).length = ss.length ∧ (∀ c ∈ (ss.map fun y => y.cps.toList).flatten, 97 ≤ c ∧ c ≤ 122) ∧ (ss.map (·.length)).sum = ss.length
  | [], _ => by simp
  | s :: ss, h => by
    obtain ⟨h1, h2, h3⟩ := flat1 fun t ht => h t (List.mem_cons_of_mem _ ht)
    obtain ⟨g1, g2⟩ := h s (List.mem_cons_self ..)
    have g3 : s.cps.toList.length = 1 := by rw [← len_eq]; exact g2
    simp only [List.map_cons, List.flatten_cons, List.length_append, List.length_cons, List.sum_cons, h1, g2, g3, h3]
    refine ⟨by omega, fun c hc => (List.mem_append.mp hc).elim (g1 c) (h2 c), by omega⟩
theorem join_word {ss : List Str} {x : Int} (h0 : 0 ≤ x) (h1 : x < 8) (hl : ss.length = (1 + x).toNat) (h : ∀ s ∈ ss, Let s ∧ s.length = 1) : ∃ w, oJoin (.str "") (.lst (ss.map D.str)) = some (.str w) ∧ Word w := by
  obtain ⟨a1, a2, a3⟩ := flat1 h
  refine ⟨Txt.join "" ss, ?_, ?_, ?_, ?_⟩
  · have e0 : ("" : Str).length = 0 := by decide +kernel
    simp only [oJoin, slist_map, Option.bind_some, joinOk, a3, e0]
    rw [if_pos (decide_eq_true (by omega))]
  · rw [len_eq, join0_cps, a1]; omega
  · rw [len_eq, join0_cps, a1]; omega
  · unfold Let; rw [join0_cps]; exact a2
theorem words_ok {o : O} {n : Nat} (ho : FeedOk o) (hn : n < 600) : Okw (mWords [.ow (some 0) o, .fz (.int n)]) (fun r Γ => ∃ ws o', r = .ol ((ws.map D.str).map O.fz) ∧ Words ws ∧ ws.length = n ∧ FeedOk o' ∧ Γ = [.ow (some 0) o', .fz (.int n)]) := by
  refine ⟨?_⟩
  unfold mWords δWords
  rw [show ("abcdefghijklmnopqrstuvwxyz" : Str) = abc from rfl]
  simp only [w_some, w_ofIf, w_ofMap, vAt_fz, w_var, w_C, k1_, w_1, k2b_, k2_, w_2, kA_, w_A, kMb_, kM_, w_M, w_aNil, kaCb_, kaC_, w_aCons, w_oNo, koAt_i, w_oAt, kSlc_, kSlb_, kSl_, w_Sl, ktB_, w_tB, bl_bl, ktT_, w_tTr, ktAnd_, w_tAnd, ktOr_, w_tOr, ktNot_, w_tNot, w_tYes, kIf_, w_If, kAnd_b, kOr_b, w_And, w_Or, ktL_, kbL_, kbF_, lentT_o, lentT_f, lentB_o, lentB_f, w_tBor, w_Bor, flat_int, flat_bl, flat_str, flat_non, kS_nx, kS_bk, kS_ct, kS_rt, w_Seq, kJ_s, w_J, w_Nx, w_Bk, w_Ct, kSet_, w_Set, kAugb_, kAugc_, kAug_, w_Aug, kParb_, kPar_, w_Par, gAt_some, kAsg_, w_Asg, kDrop_, w_Drop, kRet_, w_Ret, w_RetN, kIfS_, w_IfS, kApp_, kApp2_, appAt_, w_App, kPut_, putAt_, kPut2_, kPut3_, w_Put, w_Frz, frz_eq, frz1_ow, frz1_fz, kSetO_, w_SetO, kUp_, w_Up, kO_, w_O, dAt_, kFz_, w_Fz, rAt_ow, kRetO_, w_RetO, fEnd_rt, fEnd_nx, w_Fn, w_noEx, w_arNil, karb_, kar_, w_arCons, kasb_, kas_, w_arSlot, callAt_, kBack_, kCall_, w_Call, pull_nil, pull_fz, pull_sl, pull1_ow, push_nil, push_fz, push_sl, push1_ow, outs_nil, outs_f, outs_o, gN_ap, gTp_ap, gsNil_ap, gsCons_ap, kFor_, w_For, kiR_, w_iR, kiS_l, kiS_t, kiE_l, kiE_t, kiC_s, w_iC, w_iS, w_iE, kRnd_nx, kRnd_ct, kRnd_bk, kRnd_rt, kLcB_, kLcBO_, kLc_, kLcO_, w_Lc, w_LcO, kLcT_, kLcE_, v_add, v_sub, v_mul, v_div, v_mod, v_pow, v_ltA, v_leA, v_gtA, v_geA, v_eqA, v_neA, v_eqAs, v_eqAb, v_plusI, v_max2i, v_min2i, v_one, v_lenL, v_lenT, v_intI, v_tupL, v_tupT, v_lstL, v_lstT, v_sumL, v_sumT, v_maxL, v_minL, u_isN, u_notN, v_isT, v_not, u_neg, v_slL, v_slT, v_ixL, v_ixT, v_r1, v_r2, v_mulW, v_divW, v_gcdI, v_absI, v_sumR, v_foLstT, v_foLstL, v_foLst, v_tupOf, v_lstOf, o_fz, o_ol, o_nil, o_cons, at0, at1, at2, at3, at4, at5, at6, at7, ix_1_0, ix_2_0, ix_2_1, ix_3_0, ix_3_1, ix_3_2, ix_4_0, ix_4_1, ix_4_2, ix_4_3, ix_5_0, ix_5_1, ix_5_2, ix_5_3, ix_5_4, ix_6_0, ix_6_1, ix_6_2, ix_6_3, ix_6_4, ix_6_5, ix_7_0, ix_7_1, ix_7_2, ix_7_3, ix_7_4, ix_7_5, ix_7_6, ix_8_0, ix_8_1, ix_8_2, ix_8_3, ix_8_4, ix_8_5, ix_8_6, ix_8_7, ix_9_0, ix_9_1, ix_9_2, ix_9_3, ix_9_4, ix_9_5, ix_9_6, ix_9_7, ix_9_8, ix_10_0, ix_10_1, ix_10_2, ix_10_3, ix_10_4, ix_10_5, ix_10_6, ix_10_7, ix_10_8, ix_10_9, ix_11_0, ix_11_1, ix_11_2, ix_11_3, ix_11_4, ix_11_5, ix_11_6, ix_11_7, ix_11_8, ix_11_9, ix_11_10, ix_12_0, ix_12_1, ix_12_2, ix_12_3, ix_12_4, ix_12_5, ix_12_6, ix_12_7, ix_12_8, ix_12_9, ix_12_10, ix_12_11, isT_tuple_non, isT_tuple_bl, isT_tuple_int, isT_tuple_str, isT_tuple_tup, isT_tuple_lst, isT_int_non, isT_int_bl, isT_int_int, isT_int_str, isT_int_tup, isT_int_lst, isT_bool_non, isT_bool_bl, isT_bool_int, isT_bool_str, isT_bool_tup, isT_bool_lst, isT_str_non, isT_str_bl, isT_str_int, isT_str_str, isT_str_tup, isT_str_lst, isT_list_non, isT_list_bl, isT_list_int, isT_list_str, isT_list_tup, isT_list_lst, isN_non, isN_bl, isN_int, isN_str, isN_tup, isN_lst, at_ints, sz_iff, big_iff, div_iff, mod_iff, mul_iff, mulW_iff, divW_iff, pow_iff, List.getElem?_cons_succ, List.getElem?_cons_zero, List.set_cons_zero, List.set_cons_succ, List.cons_append, List.nil_append, List.replicate, Option.map_some, Option.bind_some, decide_eq_true_eq, decide_eq_false_iff_not, Option.some.injEq, exists_eq_left', Bool.not_eq_true', Bool.not_eq_false', Bool.not_true, Bool.not_false, Int.not_lt, Int.not_le, true_and, and_true, if_true, List.length_cons, List.length_nil, List.map_cons, List.map_nil, true_imp_iff, false_imp_iff, imp_self, imp_true_iff, not_true_eq_false, not_false_eq_true, List.length_map, Bool.false_eq_true, if_false, Bool.true_eq_false, reduceCtorEq, nos, backs, Sl.keep, decide_true, decide_false, ilist_map, O.lf, List.contains_cons, List.contains_nil, Bool.and_eq_true, beq_self_eq_true, Bool.or_false, Bool.or_true, Bool.true_or, Bool.false_or, and_self, if_pos, gAt_some, ds_fz, Nat.reduceBEq, Nat.reduceEqDiff, ite_self, rangeD_len, numbered_len, Int.toNat_natCast, Nat.reduceAdd, Int.reduceMod, Int.reduceDiv, Int.reduceLT, Int.reduceLE, Int.reduceNeg, Int.reduceMul, Int.reduceAdd, Int.reduceSub, Int.reducePow, Nat.reduceAdd, Nat.reduceLT, Nat.reduceLeDiff, Int.reduceEq, true_or, or_true, Int.reduceToNat, Int.toNat_zero, Int.toNat_one, List.length_set, List.length_append, List.length_singleton, Int.reduceAbs]
  refine ⟨by omega, ?_⟩
  refine w_loopN (fun k Γ => ∃ ws o' s4 s5 s6, Words ws ∧ ws.length = k ∧ FeedOk o' ∧ Γ = [.ow (some 0) o', .fz (.int n), .fz (.str abc), .ow none (.ol ((ws.map D.str).map O.fz)), s4, s5, s6, .no]) ⟨[], _, _, _, _, ⟨List.nodup_nil, fun w hw => nomatch hw⟩, rfl, ho, rfl⟩ ?_ ?_
  · rintro k d Γ hd ⟨ws, o1, s4, s5, s6, ⟨hnd, hw⟩, rfl, ho1, rfl⟩
    obtain ⟨hk, rfl⟩ := rangeD_get0 hd
    simp only [w_some, w_ofIf, w_ofMap, vAt_fz, w_var, w_C, k1_, w_1, k2b_, k2_, w_2, kA_, w_A, kMb_, kM_, w_M, w_aNil, kaCb_, kaC_, w_aCons, w_oNo, koAt_i, w_oAt, kSlc_, kSlb_, kSl_, w_Sl, ktB_, w_tB, bl_bl, ktT_, w_tTr, ktAnd_, w_tAnd, ktOr_, w_tOr, ktNot_, w_tNot, w_tYes, kIf_, w_If, kAnd_b, kOr_b, w_And, w_Or, ktL_, kbL_, kbF_, lentT_o, lentT_f, lentB_o, lentB_f, w_tBor, w_Bor, flat_int, flat_bl, flat_str, flat_non, kS_nx, kS_bk, kS_ct, kS_rt, w_Seq, kJ_s, w_J, w_Nx, w_Bk, w_Ct, kSet_, w_Set, kAugb_, kAugc_, kAug_, w_Aug, kParb_, kPar_, w_Par, gAt_some, kAsg_, w_Asg, kDrop_, w_Drop, kRet_, w_Ret, w_RetN, kIfS_, w_IfS, kApp_, kApp2_, appAt_, w_App, kPut_, putAt_, kPut2_, kPut3_, w_Put, w_Frz, frz_eq, frz1_ow, frz1_fz, kSetO_, w_SetO, kUp_, w_Up, kO_, w_O, dAt_, kFz_, w_Fz, rAt_ow, kRetO_, w_RetO, fEnd_rt, fEnd_nx, w_Fn, w_noEx, w_arNil, karb_, kar_, w_arCons, kasb_, kas_, w_arSlot, callAt_, kBack_, kCall_, w_Call, pull_nil, pull_fz, pull_sl, pull1_ow, push_nil, push_fz, push_sl, push1_ow, outs_nil, outs_f, outs_o, gN_ap, gTp_ap, gsNil_ap, gsCons_ap, kFor_, w_For, kiR_, w_iR, kiS_l, kiS_t, kiE_l, kiE_t, kiC_s, w_iC, w_iS, w_iE, kRnd_nx, kRnd_ct, kRnd_bk, kRnd_rt, kLcB_, kLcBO_, kLc_, kLcO_, w_Lc, w_LcO, kLcT_, kLcE_, v_add, v_sub, v_mul, v_div, v_mod, v_pow, v_ltA, v_leA, v_gtA, v_geA, v_eqA, v_neA, v_eqAs, v_eqAb, v_plusI, v_max2i, v_min2i, v_one, v_lenL, v_lenT, v_intI, v_tupL, v_tupT, v_lstL, v_lstT, v_sumL, v_sumT, v_maxL, v_minL, u_isN, u_notN, v_isT, v_not, u_neg, v_slL, v_slT, v_ixL, v_ixT, v_r1, v_r2, v_mulW, v_divW, v_gcdI, v_absI, v_sumR, v_foLstT, v_foLstL, v_foLst, v_tupOf, v_lstOf, o_fz, o_ol, o_nil, o_cons, at0, at1, at2, at3, at4, at5, at6, at7, ix_1_0, ix_2_0, ix_2_1, ix_3_0, ix_3_1, ix_3_2, ix_4_0, ix_4_1, ix_4_2, ix_4_3, ix_5_0, ix_5_1, ix_5_2, ix_5_3, ix_5_4, ix_6_0, ix_6_1, ix_6_2, ix_6_3, ix_6_4, ix_6_5, ix_7_0, ix_7_1, ix_7_2, ix_7_3, ix_7_4, ix_7_5, ix_7_6, ix_8_0, ix_8_1, ix_8_2, ix_8_3, ix_8_4, ix_8_5, ix_8_6, ix_8_7, ix_9_0, ix_9_1, ix_9_2, ix_9_3, ix_9_4, ix_9_5, ix_9_6, ix_9_7, ix_9_8, ix_10_0, ix_10_1, ix_10_2, ix_10_3, ix_10_4, ix_10_5, ix_10_6, ix_10_7, ix_10_8, ix_10_9, ix_11_0, ix_11_1, ix_11_2, ix_11_3, ix_11_4, ix_11_5, ix_11_6, ix_11_7, ix_11_8, ix_11_9, ix_11_10, ix_12_0, ix_12_1, ix_12_2, ix_12_3, ix_12_4, ix_12_5, ix_12_6, ix_12_7, ix_12_8, ix_12_9, ix_12_10, ix_12_11, isT_tuple_non, isT_tuple_bl, isT_tuple_int, isT_tuple_str, isT_tuple_tup, isT_tuple_lst, isT_int_non, isT_int_bl, isT_int_int, isT_int_str, isT_int_tup, isT_int_lst, isT_bool_non, isT_bool_bl, isT_bool_int, isT_bool_str, isT_bool_tup, isT_bool_lst, isT_str_non, isT_str_bl, isT_str_int, isT_str_str, isT_str_tup, isT_str_lst, isT_list_non, isT_list_bl, isT_list_int, isT_list_str, isT_list_tup, isT_list_lst, isN_non, isN_bl, isN_int, isN_str, isN_tup, isN_lst, at_ints, sz_iff, big_iff, div_iff, mod_iff, mul_iff, mulW_iff, divW_iff, pow_iff, List.getElem?_cons_succ, List.getElem?_cons_zero, List.set_cons_zero, List.set_cons_succ, List.cons_append, List.nil_append, List.replicate, Option.map_some, Option.bind_some, decide_eq_true_eq, decide_eq_false_iff_not, Option.some.injEq, exists_eq_left', Bool.not_eq_true', Bool.not_eq_false', Bool.not_true, Bool.not_false, Int.not_lt, Int.not_le, true_and, and_true, if_true, List.length_cons, List.length_nil, List.map_cons, List.map_nil, true_imp_iff, false_imp_iff, imp_self, imp_true_iff, not_true_eq_false, not_false_eq_true, List.length_map, Bool.false_eq_true, if_false, Bool.true_eq_false, reduceCtorEq, nos, backs, Sl.keep, decide_true, decide_false, ilist_map, O.lf, List.contains_cons, List.contains_nil, Bool.and_eq_true, beq_self_eq_true, Bool.or_false, Bool.or_true, Bool.true_or, Bool.false_or, and_self, if_pos, gAt_some, ds_fz, Nat.reduceBEq, Nat.reduceEqDiff, ite_self, rangeD_len, numbered_len, Int.toNat_natCast, Nat.reduceAdd, Int.reduceMod, Int.reduceDiv, Int.reduceLT, Int.reduceLE, Int.reduceNeg, Int.reduceMul, Int.reduceAdd, Int.reduceSub, Int.reducePow, Nat.reduceAdd, Nat.reduceLT, Nat.reduceLeDiff, Int.reduceEq, true_or, or_true, Int.reduceToNat, Int.toNat_zero, Int.toNat_one, List.length_set, List.length_append, List.length_singleton, Int.reduceAbs]
    refine draw_wp (by assumption) (by omega) (by omega) fun x2 o2 hx2 kx2 ho2 => ?_; simp only [w_some, w_ofIf, w_ofMap, vAt_fz, w_var, w_C, k1_, w_1, k2b_, k2_, w_2, kA_, w_A, kMb_, kM_, w_M, w_aNil, kaCb_, kaC_, w_aCons, w_oNo, koAt_i, w_oAt, kSlc_, kSlb_, kSl_, w_Sl, ktB_, w_tB, bl_bl, ktT_, w_tTr, ktAnd_, w_tAnd, ktOr_, w_tOr, ktNot_, w_tNot, w_tYes, kIf_, w_If, kAnd_b, kOr_b, w_And, w_Or, ktL_, kbL_, kbF_, lentT_o, lentT_f, lentB_o, lentB_f, w_tBor, w_Bor, flat_int, flat_bl, flat_str, flat_non, kS_nx, kS_bk, kS_ct, kS_rt, w_Seq, kJ_s, w_J, w_Nx, w_Bk, w_Ct, kSet_, w_Set, kAugb_, kAugc_, kAug_, w_Aug, kParb_, kPar_, w_Par, gAt_some, kAsg_, w_Asg, kDrop_, w_Drop, kRet_, w_Ret, w_RetN, kIfS_, w_IfS, kApp_, kApp2_, appAt_, w_App, kPut_, putAt_, kPut2_, kPut3_, w_Put, w_Frz, frz_eq, frz1_ow, frz1_fz, kSetO_, w_SetO, kUp_, w_Up, kO_, w_O, dAt_, kFz_, w_Fz, rAt_ow, kRetO_, w_RetO, fEnd_rt, fEnd_nx, w_Fn, w_noEx, w_arNil, karb_, kar_, w_arCons, kasb_, kas_, w_arSlot, callAt_, kBack_, kCall_, w_Call, pull_nil, pull_fz, pull_sl, pull1_ow, push_nil, push_fz, push_sl, push1_ow, outs_nil, outs_f, outs_o, gN_ap, gTp_ap, gsNil_ap, gsCons_ap, kFor_, w_For, kiR_, w_iR, kiS_l, kiS_t, kiE_l, kiE_t, kiC_s, w_iC, w_iS, w_iE, kRnd_nx, kRnd_ct, kRnd_bk, kRnd_rt, kLcB_, kLcBO_, kLc_, kLcO_, w_Lc, w_LcO, kLcT_, kLcE_, v_add, v_sub, v_mul, v_div, v_mod, v_pow, v_ltA, v_leA, v_gtA, v_geA, v_eqA, v_neA, v_eqAs, v_eqAb, v_plusI, v_max2i, v_min2i, v_one, v_lenL, v_lenT, v_intI, v_tupL, v_tupT, v_lstL, v_lstT, v_sumL, v_sumT, v_maxL, v_minL, u_isN, u_notN, v_isT, v_not, u_neg, v_slL, v_slT, v_ixL, v_ixT, v_r1, v_r2, v_mulW, v_divW, v_gcdI, v_absI, v_sumR, v_foLstT, v_foLstL, v_foLst, v_tupOf, v_lstOf, o_fz, o_ol, o_nil, o_cons, at0, at1, at2, at3, at4, at5, at6, at7, ix_1_0, ix_2_0, ix_2_1, ix_3_0, ix_3_1, ix_3_2, ix_4_0, ix_4_1, ix_4_2, ix_4_3, ix_5_0, ix_5_1, ix_5_2, ix_5_3, ix_5_4, ix_6_0, ix_6_1, ix_6_2, ix_6_3, ix_6_4, ix_6_5, ix_7_0, ix_7_1, ix_7_2, ix_7_3, ix_7_4, ix_7_5, ix_7_6, ix_8_0, ix_8_1, ix_8_2, ix_8_3, ix_8_4, ix_8_5, ix_8_6, ix_8_7, ix_9_0, ix_9_1, ix_9_2, ix_9_3, ix_9_4, ix_9_5, ix_9_6, ix_9_7, ix_9_8, ix_10_0, ix_10_1, ix_10_2, ix_10_3, ix_10_4, ix_10_5, ix_10_6, ix_10_7, ix_10_8, ix_10_9, ix_11_0, ix_11_1, ix_11_2, ix_11_3, ix_11_4, ix_11_5, ix_11_6, ix_11_7, ix_11_8, ix_11_9, ix_11_10, ix_12_0, ix_12_1, ix_12_2, ix_12_3, ix_12_4, ix_12_5, ix_12_6, ix_12_7, ix_12_8, ix_12_9, ix_12_10, ix_12_11, isT_tuple_non, isT_tuple_bl, isT_tuple_int, isT_tuple_str, isT_tuple_tup, isT_tuple_lst, isT_int_non, isT_int_bl, isT_int_int, isT_int_str, isT_int_tup, isT_int_lst, isT_bool_non, isT_bool_bl, isT_bool_int, isT_bool_str, isT_bool_tup, isT_bool_lst, isT_str_non, isT_str_bl, isT_str_int, isT_str_str, isT_str_tup, isT_str_lst, isT_list_non, isT_list_bl, isT_list_int, isT_list_str, isT_list_tup, isT_list_lst, isN_non, isN_bl, isN_int, isN_str, isN_tup, isN_lst, at_ints, sz_iff, big_iff, div_iff, mod_iff, mul_iff, mulW_iff, divW_iff, pow_iff, List.getElem?_cons_succ, List.getElem?_cons_zero, List.set_cons_zero, List.set_cons_succ, List.cons_append, List.nil_append, List.replicate, Option.map_some, Option.bind_some, decide_eq_true_eq, decide_eq_false_iff_not, Option.some.injEq, exists_eq_left', Bool.not_eq_true', Bool.not_eq_false', Bool.not_true, Bool.not_false, Int.not_lt, Int.not_le, true_and, and_true, if_true, List.length_cons, List.length_nil, List.map_cons, List.map_nil, true_imp_iff, false_imp_iff, imp_self, imp_true_iff, not_true_eq_false, not_false_eq_true, List.length_map, Bool.false_eq_true, if_false, Bool.true_eq_false, reduceCtorEq, nos, backs, Sl.keep, decide_true, decide_false, ilist_map, O.lf, List.contains_cons, List.contains_nil, Bool.and_eq_true, beq_self_eq_true, Bool.or_false, Bool.or_true, Bool.true_or, Bool.false_or, and_self, if_pos, gAt_some, ds_fz, Nat.reduceBEq, Nat.reduceEqDiff, ite_self, rangeD_len, numbered_len, Int.toNat_natCast, Nat.reduceAdd, Int.reduceMod, Int.reduceDiv, Int.reduceLT, Int.reduceLE, Int.reduceNeg, Int.reduceMul, Int.reduceAdd, Int.reduceSub, Int.reducePow, Nat.reduceAdd, Nat.reduceLT, Nat.reduceLeDiff, Int.reduceEq, true_or, or_true, Int.reduceToNat, Int.toNat_zero, Int.toNat_one, List.length_set, List.length_append, List.length_singleton, Int.reduceAbs]
    refine ⟨by omega, by omega, ?_⟩
    have hrl : (rangeD 0 (1 + x2).toNat).length = (1 + x2).toNat := rangeD_len
    refine w_lcK (fun i ys Γ => ∃ ss o3, ys = ss.map D.str ∧ ss.length = i ∧ (∀ s ∈ ss, Let s ∧ s.length = 1) ∧ FeedOk o3 ∧ Γ = [.ow (some 0) o3, .fz (.int n), .fz (.str abc), .ow none (.ol ((ws.map D.str).map O.fz)), .fz (.int ws.length), s5, s6, .no]) ⟨[], o2, rfl, rfl, (fun s hs => nomatch hs), ho2, rfl⟩ ?_ ?_
    · rintro i d ys Γ hdi ⟨ss, o3, rfl, rfl, hss, ho3, rfl⟩
      obtain ⟨hi, rfl⟩ := rangeD_get0 hdi
      simp only [w_some, w_ofIf, w_ofMap, vAt_fz, w_var, w_C, k1_, w_1, k2b_, k2_, w_2, kA_, w_A, kMb_, kM_, w_M, w_aNil, kaCb_, kaC_, w_aCons, w_oNo, koAt_i, w_oAt, kSlc_, kSlb_, kSl_, w_Sl, ktB_, w_tB, bl_bl, ktT_, w_tTr, ktAnd_, w_tAnd, ktOr_, w_tOr, ktNot_, w_tNot, w_tYes, kIf_, w_If, kAnd_b, kOr_b, w_And, w_Or, ktL_, kbL_, kbF_, lentT_o, lentT_f, lentB_o, lentB_f, w_tBor, w_Bor, flat_int, flat_bl, flat_str, flat_non, kS_nx, kS_bk, kS_ct, kS_rt, w_Seq, kJ_s, w_J, w_Nx, w_Bk, w_Ct, kSet_, w_Set, kAugb_, kAugc_, kAug_, w_Aug, kParb_, kPar_, w_Par, gAt_some, kAsg_, w_Asg, kDrop_, w_Drop, kRet_, w_Ret, w_RetN, kIfS_, w_IfS, kApp_, kApp2_, appAt_, w_App, kPut_, putAt_, kPut2_, kPut3_, w_Put, w_Frz, frz_eq, frz1_ow, frz1_fz, kSetO_, w_SetO, kUp_, w_Up, kO_, w_O, dAt_, kFz_, w_Fz, rAt_ow, kRetO_, w_RetO, fEnd_rt, fEnd_nx, w_Fn, w_noEx, w_arNil, karb_, kar_, w_arCons, kasb_, kas_, w_arSlot, callAt_, kBack_, kCall_, w_Call, pull_nil, pull_fz, pull_sl, pull1_ow, push_nil, push_fz, push_sl, push1_ow, outs_nil, outs_f, outs_o, gN_ap, gTp_ap, gsNil_ap, gsCons_ap, kFor_, w_For, kiR_, w_iR, kiS_l, kiS_t, kiE_l, kiE_t, kiC_s, w_iC, w_iS, w_iE, kRnd_nx, kRnd_ct, kRnd_bk, kRnd_rt, kLcB_, kLcBO_, kLc_, kLcO_, w_Lc, w_LcO, kLcT_, kLcE_, v_add, v_sub, v_mul, v_div, v_mod, v_pow, v_ltA, v_leA, v_gtA, v_geA, v_eqA, v_neA, v_eqAs, v_eqAb, v_plusI, v_max2i, v_min2i, v_one, v_lenL, v_lenT, v_intI, v_tupL, v_tupT, v_lstL, v_lstT, v_sumL, v_sumT, v_maxL, v_minL, u_isN, u_notN, v_isT, v_not, u_neg, v_slL, v_slT, v_ixL, v_ixT, v_r1, v_r2, v_mulW, v_divW, v_gcdI, v_absI, v_sumR, v_foLstT, v_foLstL, v_foLst, v_tupOf, v_lstOf, o_fz, o_ol, o_nil, o_cons, at0, at1, at2, at3, at4, at5, at6, at7, ix_1_0, ix_2_0, ix_2_1, ix_3_0, ix_3_1, ix_3_2, ix_4_0, ix_4_1, ix_4_2, ix_4_3, ix_5_0, ix_5_1, ix_5_2, ix_5_3, ix_5_4, ix_6_0, ix_6_1, ix_6_2, ix_6_3, ix_6_4, ix_6_5, ix_7_0, ix_7_1, ix_7_2, ix_7_3, ix_7_4, ix_7_5, ix_7_6, ix_8_0, ix_8_1, ix_8_2, ix_8_3, ix_8_4, ix_8_5, ix_8_6, ix_8_7, ix_9_0, ix_9_1, ix_9_2, ix_9_3, ix_9_4, ix_9_5, ix_9_6, ix_9_7, ix_9_8, ix_10_0, ix_10_1, ix_10_2, ix_10_3, ix_10_4, ix_10_5, ix_10_6, ix_10_7, ix_10_8, ix_10_9, ix_11_0, ix_11_1, ix_11_2, ix_11_3, ix_11_4, ix_11_5, ix_11_6, ix_11_7, ix_11_8, ix_11_9, ix_11_10, ix_12_0, ix_12_1, ix_12_2, ix_12_3, ix_12_4, ix_12_5, ix_12_6, ix_12_7, ix_12_8, ix_12_9, ix_12_10, ix_12_11, isT_tuple_non, isT_tuple_bl, isT_tuple_int, isT_tuple_str, isT_tuple_tup, isT_tuple_lst, isT_int_non, isT_int_bl, isT_int_int, isT_int_str, isT_int_tup, isT_int_lst, isT_bool_non, isT_bool_bl, isT_bool_int, isT_bool_str, isT_bool_tup, isT_bool_lst, isT_str_non, isT_str_bl, isT_str_int, isT_str_str, isT_str_tup, isT_str_lst, isT_list_non, isT_list_bl, isT_list_int, isT_list_str, isT_list_tup, isT_list_lst, isN_non, isN_bl, isN_int, isN_str, isN_tup, isN_lst, at_ints, sz_iff, big_iff, div_iff, mod_iff, mul_iff, mulW_iff, divW_iff, pow_iff, List.getElem?_cons_succ, List.getElem?_cons_zero, List.set_cons_zero, List.set_cons_succ, List.cons_append, List.nil_append, List.replicate, Option.map_some, Option.bind_some, decide_eq_true_eq, decide_eq_false_iff_not, Option.some.injEq, exists_eq_left', Bool.not_eq_true', Bool.not_eq_false', Bool.not_true, Bool.not_false, Int.not_lt, Int.not_le, true_and, and_true, if_true, List.length_cons, List.length_nil, List.map_cons, List.map_nil, true_imp_iff, false_imp_iff, imp_self, imp_true_iff, not_true_eq_false, not_false_eq_true, List.length_map, Bool.false_eq_true, if_false, Bool.true_eq_false, reduceCtorEq, nos, backs, Sl.keep, decide_true, decide_false, ilist_map, O.lf, List.contains_cons, List.contains_nil, Bool.and_eq_true, beq_self_eq_true, Bool.or_false, Bool.or_true, Bool.true_or, Bool.false_or, and_self, if_pos, gAt_some, ds_fz, Nat.reduceBEq, Nat.reduceEqDiff, ite_self, rangeD_len, numbered_len, Int.toNat_natCast, Nat.reduceAdd, Int.reduceMod, Int.reduceDiv, Int.reduceLT, Int.reduceLE, Int.reduceNeg, Int.reduceMul, Int.reduceAdd, Int.reduceSub, Int.reducePow, Nat.reduceAdd, Nat.reduceLT, Nat.reduceLeDiff, Int.reduceEq, true_or, or_true, Int.reduceToNat, Int.toNat_zero, Int.toNat_one, List.length_set, List.length_append, List.length_singleton, Int.reduceAbs]
      refine draw_wp (by assumption) (by omega) (by omega) fun x4 o4 hx4 kx4 ho4 => ?_; simp only [w_some, w_ofIf, w_ofMap, vAt_fz, w_var, w_C, k1_, w_1, k2b_, k2_, w_2, kA_, w_A, kMb_, kM_, w_M, w_aNil, kaCb_, kaC_, w_aCons, w_oNo, koAt_i, w_oAt, kSlc_, kSlb_, kSl_, w_Sl, ktB_, w_tB, bl_bl, ktT_, w_tTr, ktAnd_, w_tAnd, ktOr_, w_tOr, ktNot_, w_tNot, w_tYes, kIf_, w_If, kAnd_b, kOr_b, w_And, w_Or, ktL_, kbL_, kbF_, lentT_o, lentT_f, lentB_o, lentB_f, w_tBor, w_Bor, flat_int, flat_bl, flat_str, flat_non, kS_nx, kS_bk, kS_ct, kS_rt, w_Seq, kJ_s, w_J, w_Nx, w_Bk, w_Ct, kSet_, w_Set, kAugb_, kAugc_, kAug_, w_Aug, kParb_, kPar_, w_Par, gAt_some, kAsg_, w_Asg, kDrop_, w_Drop, kRet_, w_Ret, w_RetN, kIfS_, w_IfS, kApp_, kApp2_, appAt_, w_App, kPut_, putAt_, kPut2_, kPut3_, w_Put, w_Frz, frz_eq, frz1_ow, frz1_fz, kSetO_, w_SetO, kUp_, w_Up, kO_, w_O, dAt_, kFz_, w_Fz, rAt_ow, kRetO_, w_RetO, fEnd_rt, fEnd_nx, w_Fn, w_noEx, w_arNil, karb_, kar_, w_arCons, kasb_, kas_, w_arSlot, callAt_, kBack_, kCall_, w_Call, pull_nil, pull_fz, pull_sl, pull1_ow, push_nil, push_fz, push_sl, push1_ow, outs_nil, outs_f, outs_o, gN_ap, gTp_ap, gsNil_ap, gsCons_ap, kFor_, w_For, kiR_, w_iR, kiS_l, kiS_t, kiE_l, kiE_t, kiC_s, w_iC, w_iS, w_iE, kRnd_nx, kRnd_ct, kRnd_bk, kRnd_rt, kLcB_, kLcBO_, kLc_, kLcO_, w_Lc, w_LcO, kLcT_, kLcE_, v_add, v_sub, v_mul, v_div, v_mod, v_pow, v_ltA, v_leA, v_gtA, v_geA, v_eqA, v_neA, v_eqAs, v_eqAb, v_plusI, v_max2i, v_min2i, v_one, v_lenL, v_lenT, v_intI, v_tupL, v_tupT, v_lstL, v_lstT, v_sumL, v_sumT, v_maxL, v_minL, u_isN, u_notN, v_isT, v_not, u_neg, v_slL, v_slT, v_ixL, v_ixT, v_r1, v_r2, v_mulW, v_divW, v_gcdI, v_absI, v_sumR, v_foLstT, v_foLstL, v_foLst, v_tupOf, v_lstOf, o_fz, o_ol, o_nil, o_cons, at0, at1, at2, at3, at4, at5, at6, at7, ix_1_0, ix_2_0, ix_2_1, ix_3_0, ix_3_1, ix_3_2, ix_4_0, ix_4_1, ix_4_2, ix_4_3, ix_5_0, ix_5_1, ix_5_2, ix_5_3, ix_5_4, ix_6_0, ix_6_1, ix_6_2, ix_6_3, ix_6_4, ix_6_5, ix_7_0, ix_7_1, ix_7_2, ix_7_3, ix_7_4, ix_7_5, ix_7_6, ix_8_0, ix_8_1, ix_8_2, ix_8_3, ix_8_4, ix_8_5, ix_8_6, ix_8_7, ix_9_0, ix_9_1, ix_9_2, ix_9_3, ix_9_4, ix_9_5, ix_9_6, ix_9_7, ix_9_8, ix_10_0, ix_10_1, ix_10_2, ix_10_3, ix_10_4, ix_10_5, ix_10_6, ix_10_7, ix_10_8, ix_10_9, ix_11_0, ix_11_1, ix_11_2, ix_11_3, ix_11_4, ix_11_5, ix_11_6, ix_11_7, ix_11_8, ix_11_9, ix_11_10, ix_12_0, ix_12_1, ix_12_2, ix_12_3, ix_12_4, ix_12_5, ix_12_6, ix_12_7, ix_12_8, ix_12_9, ix_12_10, ix_12_11, isT_tuple_non, isT_tuple_bl, isT_tuple_int, isT_tuple_str, isT_tuple_tup, isT_tuple_lst, isT_int_non, isT_int_bl, isT_int_int, isT_int_str, isT_int_tup, isT_int_lst, isT_bool_non, isT_bool_bl, isT_bool_int, isT_bool_str, isT_bool_tup, isT_bool_lst, isT_str_non, isT_str_bl, isT_str_int, isT_str_str, isT_str_tup, isT_str_lst, isT_list_non, isT_list_bl, isT_list_int, isT_list_str, isT_list_tup, isT_list_lst, isN_non, isN_bl, isN_int, isN_str, isN_tup, isN_lst, at_ints, sz_iff, big_iff, div_iff, mod_iff, mul_iff, mulW_iff, divW_iff, pow_iff, List.getElem?_cons_succ, List.getElem?_cons_zero, List.set_cons_zero, List.set_cons_succ, List.cons_append, List.nil_append, List.replicate, Option.map_some, Option.bind_some, decide_eq_true_eq, decide_eq_false_iff_not, Option.some.injEq, exists_eq_left', Bool.not_eq_true', Bool.not_eq_false', Bool.not_true, Bool.not_false, Int.not_lt, Int.not_le, true_and, and_true, if_true, List.length_cons, List.length_nil, List.map_cons, List.map_nil, true_imp_iff, false_imp_iff, imp_self, imp_true_iff, not_true_eq_false, not_false_eq_true, List.length_map, Bool.false_eq_true, if_false, Bool.true_eq_false, reduceCtorEq, nos, backs, Sl.keep, decide_true, decide_false, ilist_map, O.lf, List.contains_cons, List.contains_nil, Bool.and_eq_true, beq_self_eq_true, Bool.or_false, Bool.or_true, Bool.true_or, Bool.false_or, and_self, if_pos, gAt_some, ds_fz, Nat.reduceBEq, Nat.reduceEqDiff, ite_self, rangeD_len, numbered_len, Int.toNat_natCast, Nat.reduceAdd, Int.reduceMod, Int.reduceDiv, Int.reduceLT, Int.reduceLE, Int.reduceNeg, Int.reduceMul, Int.reduceAdd, Int.reduceSub, Int.reducePow, Nat.reduceAdd, Nat.reduceLT, Nat.reduceLeDiff, Int.reduceEq, true_or, or_true, Int.reduceToNat, Int.toNat_zero, Int.toNat_one, List.length_set, List.length_append, List.length_singleton, Int.reduceAbs]
      obtain ⟨s, es, hs1, hs2⟩ := letter_at hx4 kx4
      simp only [w_some, w_ofIf, w_ofMap, vAt_fz, w_var, w_C, k1_, w_1, k2b_, k2_, w_2, kA_, w_A, kMb_, kM_, w_M, w_aNil, kaCb_, kaC_, w_aCons, w_oNo, koAt_i, w_oAt, kSlc_, kSlb_, kSl_, w_Sl, ktB_, w_tB, bl_bl, ktT_, w_tTr, ktAnd_, w_tAnd, ktOr_, w_tOr, ktNot_, w_tNot, w_tYes, kIf_, w_If, kAnd_b, kOr_b, w_And, w_Or, ktL_, kbL_, kbF_, lentT_o, lentT_f, lentB_o, lentB_f, w_tBor, w_Bor, flat_int, flat_bl, flat_str, flat_non, kS_nx, kS_bk, kS_ct, kS_rt, w_Seq, kJ_s, w_J, w_Nx, w_Bk, w_Ct, kSet_, w_Set, kAugb_, kAugc_, kAug_, w_Aug, kParb_, kPar_, w_Par, gAt_some, kAsg_, w_Asg, kDrop_, w_Drop, kRet_, w_Ret, w_RetN, kIfS_, w_IfS, kApp_, kApp2_, appAt_, w_App, kPut_, putAt_, kPut2_, kPut3_, w_Put, w_Frz, frz_eq, frz1_ow, frz1_fz, kSetO_, w_SetO, kUp_, w_Up, kO_, w_O, dAt_, kFz_, w_Fz, rAt_ow, kRetO_, w_RetO, fEnd_rt, fEnd_nx, w_Fn, w_noEx, w_arNil, karb_, kar_, w_arCons, kasb_, kas_, w_arSlot, callAt_, kBack_, kCall_, w_Call, pull_nil, pull_fz, pull_sl, pull1_ow, push_nil, push_fz, push_sl, push1_ow, outs_nil, outs_f, outs_o, gN_ap, gTp_ap, gsNil_ap, gsCons_ap, kFor_, w_For, kiR_, w_iR, kiS_l, kiS_t, kiE_l, kiE_t, kiC_s, w_iC, w_iS, w_iE, kRnd_nx, kRnd_ct, kRnd_bk, kRnd_rt, kLcB_, kLcBO_, kLc_, kLcO_, w_Lc, w_LcO, kLcT_, kLcE_, v_add, v_sub, v_mul, v_div, v_mod, v_pow, v_ltA, v_leA, v_gtA, v_geA, v_eqA, v_neA, v_eqAs, v_eqAb, v_plusI, v_max2i, v_min2i, v_one, v_lenL, v_lenT, v_intI, v_tupL, v_tupT, v_lstL, v_lstT, v_sumL, v_sumT, v_maxL, v_minL, u_isN, u_notN, v_isT, v_not, u_neg, v_slL, v_slT, v_ixL, v_ixT, v_r1, v_r2, v_mulW, v_divW, v_gcdI, v_absI, v_sumR, v_foLstT, v_foLstL, v_foLst, v_tupOf, v_lstOf, o_fz, o_ol, o_nil, o_cons, at0, at1, at2, at3, at4, at5, at6, at7, ix_1_0, ix_2_0, ix_2_1, ix_3_0, ix_3_1, ix_3_2, ix_4_0, ix_4_1, ix_4_2, ix_4_3, ix_5_0, ix_5_1, ix_5_2, ix_5_3, ix_5_4, ix_6_0, ix_6_1, ix_6_2, ix_6_3, ix_6_4, ix_6_5, ix_7_0, ix_7_1, ix_7_2, ix_7_3, ix_7_4, ix_7_5, ix_7_6, ix_8_0, ix_8_1, ix_8_2, ix_8_3, ix_8_4, ix_8_5, ix_8_6, ix_8_7, ix_9_0, ix_9_1, ix_9_2, ix_9_3, ix_9_4, ix_9_5, ix_9_6, ix_9_7, ix_9_8, ix_10_0, ix_10_1, ix_10_2, ix_10_3, ix_10_4, ix_10_5, ix_10_6, ix_10_7, ix_10_8, ix_10_9, ix_11_0, ix_11_1, ix_11_2, ix_11_3, ix_11_4, ix_11_5, ix_11_6, ix_11_7, ix_11_8, ix_11_9, ix_11_10, ix_12_0, ix_12_1, ix_12_2, ix_12_3, ix_12_4, ix_12_5, ix_12_6, ix_12_7, ix_12_8, ix_12_9, ix_12_10, ix_12_11, isT_tuple_non, isT_tuple_bl, isT_tuple_int, isT_tuple_str, isT_tuple_tup, isT_tuple_lst, isT_int_non, isT_int_bl, isT_int_int, isT_int_str, isT_int_tup, isT_int_lst, isT_bool_non, isT_bool_bl, isT_bool_int, isT_bool_str, isT_bool_tup, isT_bool_lst, isT_str_non, isT_str_bl, isT_str_int, isT_str_str, isT_str_tup, isT_str_lst, isT_list_non, isT_list_bl, isT_list_int, isT_list_str, isT_list_tup, isT_list_lst, isN_non, isN_bl, isN_int, isN_str, isN_tup, isN_lst, at_ints, sz_iff, big_iff, div_iff, mod_iff, mul_iff, mulW_iff, divW_iff, pow_iff, List.getElem?_cons_succ, List.getElem?_cons_zero, List.set_cons_zero, List.set_cons_succ, List.cons_append, List.nil_append, List.replicate, Option.map_some, Option.bind_some, decide_eq_true_eq, decide_eq_false_iff_not, Option.some.injEq, exists_eq_left', Bool.not_eq_true', Bool.not_eq_false', Bool.not_true, Bool.not_false, Int.not_lt, Int.not_le, true_and, and_true, if_true, List.length_cons, List.length_nil, List.map_cons, List.map_nil, true_imp_iff, false_imp_iff, imp_self, imp_true_iff, not_true_eq_false, not_false_eq_true, List.length_map, Bool.false_eq_true, if_false, Bool.true_eq_false, reduceCtorEq, nos, backs, Sl.keep, decide_true, decide_false, ilist_map, O.lf, List.contains_cons, List.contains_nil, Bool.and_eq_true, beq_self_eq_true, Bool.or_false, Bool.or_true, Bool.true_or, Bool.false_or, and_self, if_pos, gAt_some, ds_fz, Nat.reduceBEq, Nat.reduceEqDiff, ite_self, rangeD_len, numbered_len, Int.toNat_natCast, Nat.reduceAdd, Int.reduceMod, Int.reduceDiv, Int.reduceLT, Int.reduceLE, Int.reduceNeg, Int.reduceMul, Int.reduceAdd, Int.reduceSub, Int.reducePow, Nat.reduceAdd, Nat.reduceLT, Nat.reduceLeDiff, Int.reduceEq, true_or, or_true, Int.reduceToNat, Int.toNat_zero, Int.toNat_one, List.length_set, List.length_append, List.length_singleton, Int.reduceAbs, es]
      exact ⟨ss ++ [s], o4, by simp, by simp, fun s' hs' => (List.mem_append.mp hs').elim (hss s') (fun h => by rw [List.mem_singleton.mp h]; exact ⟨hs1, hs2⟩), ho4, rfl⟩
    rintro ys Γ ⟨ss, o3, rfl, hsl, hss, ho3, rfl⟩
    rw [hrl] at hsl
    obtain ⟨w0, eJ, hw0⟩ := join_word hx2 kx2 hsl hss
    simp only [w_some, w_ofIf, w_ofMap, vAt_fz, w_var, w_C, k1_, w_1, k2b_, k2_, w_2, kA_, w_A, kMb_, kM_, w_M, w_aNil, kaCb_, kaC_, w_aCons, w_oNo, koAt_i, w_oAt, kSlc_, kSlb_, kSl_, w_Sl, ktB_, w_tB, bl_bl, ktT_, w_tTr, ktAnd_, w_tAnd, ktOr_, w_tOr, ktNot_, w_tNot, w_tYes, kIf_, w_If, kAnd_b, kOr_b, w_And, w_Or, ktL_, kbL_, kbF_, lentT_o, lentT_f, lentB_o, lentB_f, w_tBor, w_Bor, flat_int, flat_bl, flat_str, flat_non, kS_nx, kS_bk, kS_ct, kS_rt, w_Seq, kJ_s, w_J, w_Nx, w_Bk, w_Ct, kSet_, w_Set, kAugb_, kAugc_, kAug_, w_Aug, kParb_, kPar_, w_Par, gAt_some, kAsg_, w_Asg, kDrop_, w_Drop, kRet_, w_Ret, w_RetN, kIfS_, kApp_, kApp2_, appAt_, w_App, kPut_, putAt_, kPut2_, kPut3_, w_Put, w_Frz, frz_eq, frz1_ow, frz1_fz, kSetO_, w_SetO, kUp_, w_Up, kO_, w_O, dAt_, kFz_, w_Fz, rAt_ow, kRetO_, w_RetO, fEnd_rt, fEnd_nx, w_Fn, w_noEx, w_arNil, karb_, kar_, w_arCons, kasb_, kas_, w_arSlot, callAt_, kBack_, kCall_, w_Call, pull_nil, pull_fz, pull_sl, pull1_ow, push_nil, push_fz, push_sl, push1_ow, outs_nil, outs_f, outs_o, gN_ap, gTp_ap, gsNil_ap, gsCons_ap, kFor_, w_For, kiR_, w_iR, kiS_l, kiS_t, kiE_l, kiE_t, kiC_s, w_iC, w_iS, w_iE, kRnd_nx, kRnd_ct, kRnd_bk, kRnd_rt, kLcB_, kLcBO_, kLc_, kLcO_, w_Lc, w_LcO, kLcT_, kLcE_, v_add, v_sub, v_mul, v_div, v_mod, v_pow, v_ltA, v_leA, v_gtA, v_geA, v_eqA, v_neA, v_eqAs, v_eqAb, v_plusI, v_max2i, v_min2i, v_one, v_lenL, v_lenT, v_intI, v_tupL, v_tupT, v_lstL, v_lstT, v_sumL, v_sumT, v_maxL, v_minL, u_isN, u_notN, v_isT, v_not, u_neg, v_slL, v_slT, v_ixL, v_ixT, v_r1, v_r2, v_mulW, v_divW, v_gcdI, v_absI, v_sumR, v_foLstT, v_foLstL, v_foLst, v_tupOf, v_lstOf, o_fz, o_ol, o_nil, o_cons, at0, at1, at2, at3, at4, at5, at6, at7, ix_1_0, ix_2_0, ix_2_1, ix_3_0, ix_3_1, ix_3_2, ix_4_0, ix_4_1, ix_4_2, ix_4_3, ix_5_0, ix_5_1, ix_5_2, ix_5_3, ix_5_4, ix_6_0, ix_6_1, ix_6_2, ix_6_3, ix_6_4, ix_6_5, ix_7_0, ix_7_1, ix_7_2, ix_7_3, ix_7_4, ix_7_5, ix_7_6, ix_8_0, ix_8_1, ix_8_2, ix_8_3, ix_8_4, ix_8_5, ix_8_6, ix_8_7, ix_9_0, ix_9_1, ix_9_2, ix_9_3, ix_9_4, ix_9_5, ix_9_6, ix_9_7, ix_9_8, ix_10_0, ix_10_1, ix_10_2, ix_10_3, ix_10_4, ix_10_5, ix_10_6, ix_10_7, ix_10_8, ix_10_9, ix_11_0, ix_11_1, ix_11_2, ix_11_3, ix_11_4, ix_11_5, ix_11_6, ix_11_7, ix_11_8, ix_11_9, ix_11_10, ix_12_0, ix_12_1, ix_12_2, ix_12_3, ix_12_4, ix_12_5, ix_12_6, ix_12_7, ix_12_8, ix_12_9, ix_12_10, ix_12_11, isT_tuple_non, isT_tuple_bl, isT_tuple_int, isT_tuple_str, isT_tuple_tup, isT_tuple_lst, isT_int_non, isT_int_bl, isT_int_int, isT_int_str, isT_int_tup, isT_int_lst, isT_bool_non, isT_bool_bl, isT_bool_int, isT_bool_str, isT_bool_tup, isT_bool_lst, isT_str_non, isT_str_bl, isT_str_int, isT_str_str, isT_str_tup, isT_str_lst, isT_list_non, isT_list_bl, isT_list_int, isT_list_str, isT_list_tup, isT_list_lst, isN_non, isN_bl, isN_int, isN_str, isN_tup, isN_lst, at_ints, sz_iff, big_iff, div_iff, mod_iff, mul_iff, mulW_iff, divW_iff, pow_iff, List.getElem?_cons_succ, List.getElem?_cons_zero, List.set_cons_zero, List.set_cons_succ, List.cons_append, List.nil_append, List.replicate, Option.map_some, Option.bind_some, decide_eq_true_eq, decide_eq_false_iff_not, Option.some.injEq, exists_eq_left', Bool.not_eq_true', Bool.not_eq_false', Bool.not_true, Bool.not_false, Int.not_lt, Int.not_le, true_and, and_true, if_true, List.length_cons, List.length_nil, List.map_cons, List.map_nil, true_imp_iff, false_imp_iff, imp_self, imp_true_iff, not_true_eq_false, not_false_eq_true, List.length_map, Bool.false_eq_true, if_false, Bool.true_eq_false, reduceCtorEq, nos, backs, Sl.keep, decide_true, decide_false, ilist_map, O.lf, List.contains_cons, List.contains_nil, Bool.and_eq_true, beq_self_eq_true, Bool.or_false, Bool.or_true, Bool.true_or, Bool.false_or, and_self, if_pos, gAt_some, ds_fz, Nat.reduceBEq, Nat.reduceEqDiff, ite_self, rangeD_len, numbered_len, Int.toNat_natCast, Nat.reduceAdd, Int.reduceMod, Int.reduceDiv, Int.reduceLT, Int.reduceLE, Int.reduceNeg, Int.reduceMul, Int.reduceAdd, Int.reduceSub, Int.reducePow, Nat.reduceAdd, Nat.reduceLT, Nat.reduceLeDiff, Int.reduceEq, true_or, or_true, Int.reduceToNat, Int.toNat_zero, Int.toNat_one, List.length_set, List.length_append, List.length_singleton, Int.reduceAbs, eJ]
    have hlw : ∀ w, Word w → sizeOk w.length = true := fun w h => by have := h.2.1; simp only [sz_iff]; omega
    have hmem : ∀ i : Int, 0 ≤ i → i < ws.length → ∃ w, atI ws i = some w ∧ Word w := fun i h0 h1 => atI_all Word h0 h1 hw
    refine w_mono (P := fun f Γ => f = .nx ∧ ∃ w o', Word w ∧ FeedOk o' ∧ Γ = [.ow (some 0) o', .fz (.int n), .fz (.str abc), .ow none (.ol ((ws.map D.str).map O.fz)), .fz (.int ws.length), .fz (.str w), s6, .no]) ?_ ?_
    · simp only [w_some, w_ofIf, w_ofMap, vAt_fz, w_var, w_C, k1_, w_1, k2b_, k2_, w_2, kA_, w_A, kMb_, kM_, w_M, w_aNil, kaCb_, kaC_, w_aCons, w_oNo, koAt_i, w_oAt, kSlc_, kSlb_, kSl_, w_Sl, ktB_, w_tB, bl_bl, ktT_, w_tTr, ktAnd_, w_tAnd, ktOr_, w_tOr, ktNot_, w_tNot, w_tYes, kIf_, w_If, kAnd_b, kOr_b, w_And, w_Or, ktL_, kbL_, kbF_, lentT_o, lentT_f, lentB_o, lentB_f, w_tBor, w_Bor, flat_int, flat_bl, flat_str, flat_non, kS_nx, kS_bk, kS_ct, kS_rt, w_Seq, kJ_s, w_J, w_Nx, w_Bk, w_Ct, kSet_, w_Set, kAugb_, kAugc_, kAug_, w_Aug, kParb_, kPar_, w_Par, gAt_some, kAsg_, w_Asg, kDrop_, w_Drop, kRet_, w_Ret, w_RetN, kIfS_, w_IfS, kApp_, kApp2_, appAt_, w_App, kPut_, putAt_, kPut2_, kPut3_, w_Put, w_Frz, frz_eq, frz1_ow, frz1_fz, kSetO_, w_SetO, kUp_, w_Up, kO_, w_O, dAt_, kFz_, w_Fz, rAt_ow, kRetO_, w_RetO, fEnd_rt, fEnd_nx, w_Fn, w_noEx, w_arNil, karb_, kar_, w_arCons, kasb_, kas_, w_arSlot, callAt_, kBack_, kCall_, w_Call, pull_nil, pull_fz, pull_sl, pull1_ow, push_nil, push_fz, push_sl, push1_ow, outs_nil, outs_f, outs_o, gN_ap, gTp_ap, gsNil_ap, gsCons_ap, kFor_, w_For, kiR_, w_iR, kiS_l, kiS_t, kiE_l, kiE_t, kiC_s, w_iC, w_iS, w_iE, kRnd_nx, kRnd_ct, kRnd_bk, kRnd_rt, kLcB_, kLcBO_, kLc_, kLcO_, w_Lc, w_LcO, kLcT_, kLcE_, v_add, v_sub, v_mul, v_div, v_mod, v_pow, v_ltA, v_leA, v_gtA, v_geA, v_eqA, v_neA, v_eqAs, v_eqAb, v_plusI, v_max2i, v_min2i, v_one, v_lenL, v_lenT, v_intI, v_tupL, v_tupT, v_lstL, v_lstT, v_sumL, v_sumT, v_maxL, v_minL, u_isN, u_notN, v_isT, v_not, u_neg, v_slL, v_slT, v_ixL, v_ixT, v_r1, v_r2, v_mulW, v_divW, v_gcdI, v_absI, v_sumR, v_foLstT, v_foLstL, v_foLst, v_tupOf, v_lstOf, o_fz, o_ol, o_nil, o_cons, at0, at1, at2, at3, at4, at5, at6, at7, ix_1_0, ix_2_0, ix_2_1, ix_3_0, ix_3_1, ix_3_2, ix_4_0, ix_4_1, ix_4_2, ix_4_3, ix_5_0, ix_5_1, ix_5_2, ix_5_3, ix_5_4, ix_6_0, ix_6_1, ix_6_2, ix_6_3, ix_6_4, ix_6_5, ix_7_0, ix_7_1, ix_7_2, ix_7_3, ix_7_4, ix_7_5, ix_7_6, ix_8_0, ix_8_1, ix_8_2, ix_8_3, ix_8_4, ix_8_5, ix_8_6, ix_8_7, ix_9_0, ix_9_1, ix_9_2, ix_9_3, ix_9_4, ix_9_5, ix_9_6, ix_9_7, ix_9_8, ix_10_0, ix_10_1, ix_10_2, ix_10_3, ix_10_4, ix_10_5, ix_10_6, ix_10_7, ix_10_8, ix_10_9, ix_11_0, ix_11_1, ix_11_2, ix_11_3, ix_11_4, ix_11_5, ix_11_6, ix_11_7, ix_11_8, ix_11_9, ix_11_10, ix_12_0, ix_12_1, ix_12_2, ix_12_3, ix_12_4, ix_12_5, ix_12_6, ix_12_7, ix_12_8, ix_12_9, ix_12_10, ix_12_11, isT_tuple_non, isT_tuple_bl, isT_tuple_int, isT_tuple_str, isT_tuple_tup, isT_tuple_lst, isT_int_non, isT_int_bl, isT_int_int, isT_int_str, isT_int_tup, isT_int_lst, isT_bool_non, isT_bool_bl, isT_bool_int, isT_bool_str, isT_bool_tup, isT_bool_lst, isT_str_non, isT_str_bl, isT_str_int, isT_str_str, isT_str_tup, isT_str_lst, isT_list_non, isT_list_bl, isT_list_int, isT_list_str, isT_list_tup, isT_list_lst, isN_non, isN_bl, isN_int, isN_str, isN_tup, isN_lst, at_ints, sz_iff, big_iff, div_iff, mod_iff, mul_iff, mulW_iff, divW_iff, pow_iff, List.getElem?_cons_succ, List.getElem?_cons_zero, List.set_cons_zero, List.set_cons_succ, List.cons_append, List.nil_append, List.replicate, Option.map_some, Option.bind_some, decide_eq_true_eq, decide_eq_false_iff_not, Option.some.injEq, exists_eq_left', Bool.not_eq_true', Bool.not_eq_false', Bool.not_true, Bool.not_false, Int.not_lt, Int.not_le, true_and, and_true, if_true, List.length_cons, List.length_nil, List.map_cons, List.map_nil, true_imp_iff, false_imp_iff, imp_self, imp_true_iff, not_true_eq_false, not_false_eq_true, List.length_map, Bool.false_eq_true, if_false, Bool.true_eq_false, reduceCtorEq, nos, backs, Sl.keep, decide_true, decide_false, ilist_map, O.lf, List.contains_cons, List.contains_nil, Bool.and_eq_true, beq_self_eq_true, Bool.or_false, Bool.or_true, Bool.true_or, Bool.false_or, and_self, if_pos, gAt_some, ds_fz, Nat.reduceBEq, Nat.reduceEqDiff, ite_self, rangeD_len, numbered_len, Int.toNat_natCast, Nat.reduceAdd, Int.reduceMod, Int.reduceDiv, Int.reduceLT, Int.reduceLE, Int.reduceNeg, Int.reduceMul, Int.reduceAdd, Int.reduceSub, Int.reducePow, Nat.reduceAdd, Nat.reduceLT, Nat.reduceLeDiff, Int.reduceEq, true_or, or_true, Int.reduceToNat, Int.toNat_zero, Int.toNat_one, List.length_set, List.length_append, List.length_singleton, Int.reduceAbs]
      refine ⟨fun h => ?_, fun _ => ⟨w0, o3, hw0, ho3, rfl⟩⟩
      refine draw_wp (by assumption) (by omega) (by omega) fun x5 o5 hx5 kx5 ho5 => ?_; simp only [w_some, w_ofIf, w_ofMap, vAt_fz, w_var, w_C, k1_, w_1, k2b_, k2_, w_2, kA_, w_A, kMb_, kM_, w_M, w_aNil, kaCb_, kaC_, w_aCons, w_oNo, koAt_i, w_oAt, kSlc_, kSlb_, kSl_, w_Sl, ktB_, w_tB, bl_bl, ktT_, w_tTr, ktAnd_, w_tAnd, ktOr_, w_tOr, ktNot_, w_tNot, w_tYes, kIf_, w_If, kAnd_b, kOr_b, w_And, w_Or, ktL_, kbL_, kbF_, lentT_o, lentT_f, lentB_o, lentB_f, w_tBor, w_Bor, flat_int, flat_bl, flat_str, flat_non, kS_nx, kS_bk, kS_ct, kS_rt, w_Seq, kJ_s, w_J, w_Nx, w_Bk, w_Ct, kSet_, w_Set, kAugb_, kAugc_, kAug_, w_Aug, kParb_, kPar_, w_Par, gAt_some, kAsg_, w_Asg, kDrop_, w_Drop, kRet_, w_Ret, w_RetN, kIfS_, w_IfS, kApp_, kApp2_, appAt_, w_App, kPut_, putAt_, kPut2_, kPut3_, w_Put, w_Frz, frz_eq, frz1_ow, frz1_fz, kSetO_, w_SetO, kUp_, w_Up, kO_, w_O, dAt_, kFz_, w_Fz, rAt_ow, kRetO_, w_RetO, fEnd_rt, fEnd_nx, w_Fn, w_noEx, w_arNil, karb_, kar_, w_arCons, kasb_, kas_, w_arSlot, callAt_, kBack_, kCall_, w_Call, pull_nil, pull_fz, pull_sl, pull1_ow, push_nil, push_fz, push_sl, push1_ow, outs_nil, outs_f, outs_o, gN_ap, gTp_ap, gsNil_ap, gsCons_ap, kFor_, w_For, kiR_, w_iR, kiS_l, kiS_t, kiE_l, kiE_t, kiC_s, w_iC, w_iS, w_iE, kRnd_nx, kRnd_ct, kRnd_bk, kRnd_rt, kLcB_, kLcBO_, kLc_, kLcO_, w_Lc, w_LcO, kLcT_, kLcE_, v_add, v_sub, v_mul, v_div, v_mod, v_pow, v_ltA, v_leA, v_gtA, v_geA, v_eqA, v_neA, v_eqAs, v_eqAb, v_plusI, v_max2i, v_min2i, v_one, v_lenL, v_lenT, v_intI, v_tupL, v_tupT, v_lstL, v_lstT, v_sumL, v_sumT, v_maxL, v_minL, u_isN, u_notN, v_isT, v_not, u_neg, v_slL, v_slT, v_ixL, v_ixT, v_r1, v_r2, v_mulW, v_divW, v_gcdI, v_absI, v_sumR, v_foLstT, v_foLstL, v_foLst, v_tupOf, v_lstOf, o_fz, o_ol, o_nil, o_cons, at0, at1, at2, at3, at4, at5, at6, at7, ix_1_0, ix_2_0, ix_2_1, ix_3_0, ix_3_1, ix_3_2, ix_4_0, ix_4_1, ix_4_2, ix_4_3, ix_5_0, ix_5_1, ix_5_2, ix_5_3, ix_5_4, ix_6_0, ix_6_1, ix_6_2, ix_6_3, ix_6_4, ix_6_5, ix_7_0, ix_7_1, ix_7_2, ix_7_3, ix_7_4, ix_7_5, ix_7_6, ix_8_0, ix_8_1, ix_8_2, ix_8_3, ix_8_4, ix_8_5, ix_8_6, ix_8_7, ix_9_0, ix_9_1, ix_9_2, ix_9_3, ix_9_4, ix_9_5, ix_9_6, ix_9_7, ix_9_8, ix_10_0, ix_10_1, ix_10_2, ix_10_3, ix_10_4, ix_10_5, ix_10_6, ix_10_7, ix_10_8, ix_10_9, ix_11_0, ix_11_1, ix_11_2, ix_11_3, ix_11_4, ix_11_5, ix_11_6, ix_11_7, ix_11_8, ix_11_9, ix_11_10, ix_12_0, ix_12_1, ix_12_2, ix_12_3, ix_12_4, ix_12_5, ix_12_6, ix_12_7, ix_12_8, ix_12_9, ix_12_10, ix_12_11, isT_tuple_non, isT_tuple_bl, isT_tuple_int, isT_tuple_str, isT_tuple_tup, isT_tuple_lst, isT_int_non, isT_int_bl, isT_int_int, isT_int_str, isT_int_tup, isT_int_lst, isT_bool_non, isT_bool_bl, isT_bool_int, isT_bool_str, isT_bool_tup, isT_bool_lst, isT_str_non, isT_str_bl, isT_str_int, isT_str_str, isT_str_tup, isT_str_lst, isT_list_non, isT_list_bl, isT_list_int, isT_list_str, isT_list_tup, isT_list_lst, isN_non, isN_bl, isN_int, isN_str, isN_tup, isN_lst, at_ints, sz_iff, big_iff, div_iff, mod_iff, mul_iff, mulW_iff, divW_iff, pow_iff, List.getElem?_cons_succ, List.getElem?_cons_zero, List.set_cons_zero, List.set_cons_succ, List.cons_append, List.nil_append, List.replicate, Option.map_some, Option.bind_some, decide_eq_true_eq, decide_eq_false_iff_not, Option.some.injEq, exists_eq_left', Bool.not_eq_true', Bool.not_eq_false', Bool.not_true, Bool.not_false, Int.not_lt, Int.not_le, true_and, and_true, if_true, List.length_cons, List.length_nil, List.map_cons, List.map_nil, true_imp_iff, false_imp_iff, imp_self, imp_true_iff, not_true_eq_false, not_false_eq_true, List.length_map, Bool.false_eq_true, if_false, Bool.true_eq_false, reduceCtorEq, nos, backs, Sl.keep, decide_true, decide_false, ilist_map, O.lf, List.contains_cons, List.contains_nil, Bool.and_eq_true, beq_self_eq_true, Bool.or_false, Bool.or_true, Bool.true_or, Bool.false_or, and_self, if_pos, gAt_some, ds_fz, Nat.reduceBEq, Nat.reduceEqDiff, ite_self, rangeD_len, numbered_len, Int.toNat_natCast, Nat.reduceAdd, Int.reduceMod, Int.reduceDiv, Int.reduceLT, Int.reduceLE, Int.reduceNeg, Int.reduceMul, Int.reduceAdd, Int.reduceSub, Int.reducePow, Nat.reduceAdd, Nat.reduceLT, Nat.reduceLeDiff, Int.reduceEq, true_or, or_true, Int.reduceToNat, Int.toNat_zero, Int.toNat_one, List.length_set, List.length_append, List.length_singleton, Int.reduceAbs]
      refine ⟨fun _ => ?_, fun _ => ⟨w0, o5, hw0, ho5, rfl⟩⟩
      obtain ⟨wl, hwl, el⟩ := atI_last (xs := ws) (by omega)
      have h1 := hw wl hwl
      simp only [at_strs, el, w_some, w_ofIf, w_ofMap, vAt_fz, w_var, w_C, k1_, w_1, k2b_, k2_, w_2, kA_, w_A, kMb_, kM_, w_M, w_aNil, kaCb_, kaC_, w_aCons, w_oNo, koAt_i, w_oAt, kSlc_, kSlb_, kSl_, w_Sl, ktB_, w_tB, bl_bl, ktT_, w_tTr, ktAnd_, w_tAnd, ktOr_, w_tOr, ktNot_, w_tNot, w_tYes, kIf_, w_If, kAnd_b, kOr_b, w_And, w_Or, ktL_, kbL_, kbF_, lentT_o, lentT_f, lentB_o, lentB_f, w_tBor, w_Bor, flat_int, flat_bl, flat_str, flat_non, kS_nx, kS_bk, kS_ct, kS_rt, w_Seq, kJ_s, w_J, w_Nx, w_Bk, w_Ct, kSet_, w_Set, kAugb_, kAugc_, kAug_, w_Aug, kParb_, kPar_, w_Par, gAt_some, kAsg_, w_Asg, kDrop_, w_Drop, kRet_, w_Ret, w_RetN, kIfS_, w_IfS, kApp_, kApp2_, appAt_, w_App, kPut_, putAt_, kPut2_, kPut3_, w_Put, w_Frz, frz_eq, frz1_ow, frz1_fz, kSetO_, w_SetO, kUp_, w_Up, kO_, w_O, dAt_, kFz_, w_Fz, rAt_ow, kRetO_, w_RetO, fEnd_rt, fEnd_nx, w_Fn, w_noEx, w_arNil, karb_, kar_, w_arCons, kasb_, kas_, w_arSlot, callAt_, kBack_, kCall_, w_Call, pull_nil, pull_fz, pull_sl, pull1_ow, push_nil, push_fz, push_sl, push1_ow, outs_nil, outs_f, outs_o, gN_ap, gTp_ap, gsNil_ap, gsCons_ap, kFor_, w_For, kiR_, w_iR, kiS_l, kiS_t, kiE_l, kiE_t, kiC_s, w_iC, w_iS, w_iE, kRnd_nx, kRnd_ct, kRnd_bk, kRnd_rt, kLcB_, kLcBO_, kLc_, kLcO_, w_Lc, w_LcO, kLcT_, kLcE_, v_add, v_sub, v_mul, v_div, v_mod, v_pow, v_ltA, v_leA, v_gtA, v_geA, v_eqA, v_neA, v_eqAs, v_eqAb, v_plusI, v_max2i, v_min2i, v_one, v_lenL, v_lenT, v_intI, v_tupL, v_tupT, v_lstL, v_lstT, v_sumL, v_sumT, v_maxL, v_minL, u_isN, u_notN, v_isT, v_not, u_neg, v_slL, v_slT, v_ixL, v_ixT, v_r1, v_r2, v_mulW, v_divW, v_gcdI, v_absI, v_sumR, v_foLstT, v_foLstL, v_foLst, v_tupOf, v_lstOf, o_fz, o_ol, o_nil, o_cons, at0, at1, at2, at3, at4, at5, at6, at7, ix_1_0, ix_2_0, ix_2_1, ix_3_0, ix_3_1, ix_3_2, ix_4_0, ix_4_1, ix_4_2, ix_4_3, ix_5_0, ix_5_1, ix_5_2, ix_5_3, ix_5_4, ix_6_0, ix_6_1, ix_6_2, ix_6_3, ix_6_4, ix_6_5, ix_7_0, ix_7_1, ix_7_2, ix_7_3, ix_7_4, ix_7_5, ix_7_6, ix_8_0, ix_8_1, ix_8_2, ix_8_3, ix_8_4, ix_8_5, ix_8_6, ix_8_7, ix_9_0, ix_9_1, ix_9_2, ix_9_3, ix_9_4, ix_9_5, ix_9_6, ix_9_7, ix_9_8, ix_10_0, ix_10_1, ix_10_2, ix_10_3, ix_10_4, ix_10_5, ix_10_6, ix_10_7, ix_10_8, ix_10_9, ix_11_0, ix_11_1, ix_11_2, ix_11_3, ix_11_4, ix_11_5, ix_11_6, ix_11_7, ix_11_8, ix_11_9, ix_11_10, ix_12_0, ix_12_1, ix_12_2, ix_12_3, ix_12_4, ix_12_5, ix_12_6, ix_12_7, ix_12_8, ix_12_9, ix_12_10, ix_12_11, isT_tuple_non, isT_tuple_bl, isT_tuple_int, isT_tuple_str, isT_tuple_tup, isT_tuple_lst, isT_int_non, isT_int_bl, isT_int_int, isT_int_str, isT_int_tup, isT_int_lst, isT_bool_non, isT_bool_bl, isT_bool_int, isT_bool_str, isT_bool_tup, isT_bool_lst, isT_str_non, isT_str_bl, isT_str_int, isT_str_str, isT_str_tup, isT_str_lst, isT_list_non, isT_list_bl, isT_list_int, isT_list_str, isT_list_tup, isT_list_lst, isN_non, isN_bl, isN_int, isN_str, isN_tup, isN_lst, at_ints, sz_iff, big_iff, div_iff, mod_iff, mul_iff, mulW_iff, divW_iff, pow_iff, List.getElem?_cons_succ, List.getElem?_cons_zero, List.set_cons_zero, List.set_cons_succ, List.cons_append, List.nil_append, List.replicate, Option.map_some, Option.bind_some, decide_eq_true_eq, decide_eq_false_iff_not, Option.some.injEq, exists_eq_left', Bool.not_eq_true', Bool.not_eq_false', Bool.not_true, Bool.not_false, Int.not_lt, Int.not_le, true_and, and_true, if_true, List.length_cons, List.length_nil, List.map_cons, List.map_nil, true_imp_iff, false_imp_iff, imp_self, imp_true_iff, not_true_eq_false, not_false_eq_true, List.length_map, Bool.false_eq_true, if_false, Bool.true_eq_false, reduceCtorEq, nos, backs, Sl.keep, decide_true, decide_false, ilist_map, O.lf, List.contains_cons, List.contains_nil, Bool.and_eq_true, beq_self_eq_true, Bool.or_false, Bool.or_true, Bool.true_or, Bool.false_or, and_self, if_pos, gAt_some, ds_fz, Nat.reduceBEq, Nat.reduceEqDiff, ite_self, rangeD_len, numbered_len, Int.toNat_natCast, Nat.reduceAdd, Int.reduceMod, Int.reduceDiv, Int.reduceLT, Int.reduceLE, Int.reduceNeg, Int.reduceMul, Int.reduceAdd, Int.reduceSub, Int.reducePow, Nat.reduceAdd, Nat.reduceLT, Nat.reduceLeDiff, Int.reduceEq, true_or, or_true, Int.reduceToNat, Int.toNat_zero, Int.toNat_one, List.length_set, List.length_append, List.length_singleton, Int.reduceAbs, plus_strs, sl_str]
      obtain ⟨b1, b2, b3⟩ := h1
      obtain ⟨c1, c2, c3⟩ := hw0
      rw [len_app]
      refine ⟨by omega, by omega, _, o5, ⟨?_, ?_, (b3.app c3).cut _ _⟩, ho5, rfl⟩
      · rw [len_to (by decide), len_app]; omega
      · rw [len_to (by decide)]; omega
    rintro _ _ ⟨rfl, w1, o4, hw1, ho4, rfl⟩
    simp only [w_some, w_ofIf, w_ofMap, vAt_fz, w_var, w_C, k1_, w_1, k2b_, k2_, w_2, kA_, w_A, kMb_, kM_, w_M, w_aNil, kaCb_, kaC_, w_aCons, w_oNo, koAt_i, w_oAt, kSlc_, kSlb_, kSl_, w_Sl, ktB_, w_tB, bl_bl, ktT_, w_tTr, ktAnd_, w_tAnd, ktOr_, w_tOr, ktNot_, w_tNot, w_tYes, kIf_, w_If, kAnd_b, kOr_b, w_And, w_Or, ktL_, kbL_, kbF_, lentT_o, lentT_f, lentB_o, lentB_f, w_tBor, w_Bor, flat_int, flat_bl, flat_str, flat_non, kS_nx, kS_bk, kS_ct, kS_rt, w_Seq, kJ_s, w_J, w_Nx, w_Bk, w_Ct, kSet_, w_Set, kAugb_, kAugc_, kAug_, w_Aug, kParb_, kPar_, w_Par, gAt_some, kAsg_, w_Asg, kDrop_, w_Drop, kRet_, w_Ret, w_RetN, kIfS_, kApp_, kApp2_, appAt_, w_App, kPut_, putAt_, kPut2_, kPut3_, w_Put, w_Frz, frz_eq, frz1_ow, frz1_fz, kSetO_, w_SetO, kUp_, w_Up, kO_, w_O, dAt_, kFz_, w_Fz, rAt_ow, kRetO_, w_RetO, fEnd_rt, fEnd_nx, w_Fn, w_noEx, w_arNil, karb_, kar_, w_arCons, kasb_, kas_, w_arSlot, callAt_, kBack_, kCall_, w_Call, pull_nil, pull_fz, pull_sl, pull1_ow, push_nil, push_fz, push_sl, push1_ow, outs_nil, outs_f, outs_o, gN_ap, gTp_ap, gsNil_ap, gsCons_ap, kFor_, w_For, kiR_, w_iR, kiS_l, kiS_t, kiE_l, kiE_t, kiC_s, w_iC, w_iS, w_iE, kRnd_nx, kRnd_ct, kRnd_bk, kRnd_rt, kLcB_, kLcBO_, kLc_, kLcO_, w_Lc, w_LcO, kLcT_, kLcE_, v_add, v_sub, v_mul, v_div, v_mod, v_pow, v_ltA, v_leA, v_gtA, v_geA, v_eqA, v_neA, v_eqAs, v_eqAb, v_plusI, v_max2i, v_min2i, v_one, v_lenL, v_lenT, v_intI, v_tupL, v_tupT, v_lstL, v_lstT, v_sumL, v_sumT, v_maxL, v_minL, u_isN, u_notN, v_isT, v_not, u_neg, v_slL, v_slT, v_ixL, v_ixT, v_r1, v_r2, v_mulW, v_divW, v_gcdI, v_absI, v_sumR, v_foLstT, v_foLstL, v_foLst, v_tupOf, v_lstOf, o_fz, o_ol, o_nil, o_cons, at0, at1, at2, at3, at4, at5, at6, at7, ix_1_0, ix_2_0, ix_2_1, ix_3_0, ix_3_1, ix_3_2, ix_4_0, ix_4_1, ix_4_2, ix_4_3, ix_5_0, ix_5_1, ix_5_2, ix_5_3, ix_5_4, ix_6_0, ix_6_1, ix_6_2, ix_6_3, ix_6_4, ix_6_5, ix_7_0, ix_7_1, ix_7_2, ix_7_3, ix_7_4, ix_7_5, ix_7_6, ix_8_0, ix_8_1, ix_8_2, ix_8_3, ix_8_4, ix_8_5, ix_8_6, ix_8_7, ix_9_0, ix_9_1, ix_9_2, ix_9_3, ix_9_4, ix_9_5, ix_9_6, ix_9_7, ix_9_8, ix_10_0, ix_10_1, ix_10_2, ix_10_3, ix_10_4, ix_10_5, ix_10_6, ix_10_7, ix_10_8, ix_10_9, ix_11_0, ix_11_1, ix_11_2, ix_11_3, ix_11_4, ix_11_5, ix_11_6, ix_11_7, ix_11_8, ix_11_9, ix_11_10, ix_12_0, ix_12_1, ix_12_2, ix_12_3, ix_12_4, ix_12_5, ix_12_6, ix_12_7, ix_12_8, ix_12_9, ix_12_10, ix_12_11, isT_tuple_non, isT_tuple_bl, isT_tuple_int, isT_tuple_str, isT_tuple_tup, isT_tuple_lst, isT_int_non, isT_int_bl, isT_int_int, isT_int_str, isT_int_tup, isT_int_lst, isT_bool_non, isT_bool_bl, isT_bool_int, isT_bool_str, isT_bool_tup, isT_bool_lst, isT_str_non, isT_str_bl, isT_str_int, isT_str_str, isT_str_tup, isT_str_lst, isT_list_non, isT_list_bl, isT_list_int, isT_list_str, isT_list_tup, isT_list_lst, isN_non, isN_bl, isN_int, isN_str, isN_tup, isN_lst, at_ints, sz_iff, big_iff, div_iff, mod_iff, mul_iff, mulW_iff, divW_iff, pow_iff, List.getElem?_cons_succ, List.getElem?_cons_zero, List.set_cons_zero, List.set_cons_succ, List.cons_append, List.nil_append, List.replicate, Option.map_some, Option.bind_some, decide_eq_true_eq, decide_eq_false_iff_not, Option.some.injEq, exists_eq_left', Bool.not_eq_true', Bool.not_eq_false', Bool.not_true, Bool.not_false, Int.not_lt, Int.not_le, true_and, and_true, if_true, List.length_cons, List.length_nil, List.map_cons, List.map_nil, true_imp_iff, false_imp_iff, imp_self, imp_true_iff, not_true_eq_false, not_false_eq_true, List.length_map, Bool.false_eq_true, if_false, Bool.true_eq_false, reduceCtorEq, nos, backs, Sl.keep, decide_true, decide_false, ilist_map, O.lf, List.contains_cons, List.contains_nil, Bool.and_eq_true, beq_self_eq_true, Bool.or_false, Bool.or_true, Bool.true_or, Bool.false_or, and_self, if_pos, gAt_some, ds_fz, Nat.reduceBEq, Nat.reduceEqDiff, ite_self, rangeD_len, numbered_len, Int.toNat_natCast, Nat.reduceAdd, Int.reduceMod, Int.reduceDiv, Int.reduceLT, Int.reduceLE, Int.reduceNeg, Int.reduceMul, Int.reduceAdd, Int.reduceSub, Int.reducePow, Nat.reduceAdd, Nat.reduceLT, Nat.reduceLeDiff, Int.reduceEq, true_or, or_true, Int.reduceToNat, Int.toNat_zero, Int.toNat_one, List.length_set, List.length_append, List.length_singleton, Int.reduceAbs]
    refine w_mono (P := fun f Γ => f = .nx ∧ ∃ w o' s6, Word w ∧ FeedOk o' ∧ Γ = [.ow (some 0) o', .fz (.int n), .fz (.str abc), .ow none (.ol ((ws.map D.str).map O.fz)), .fz (.int ws.length), .fz (.str w), s6, .no]) ?_ ?_
    · simp only [w_some, w_ofIf, w_ofMap, vAt_fz, w_var, w_C, k1_, w_1, k2b_, k2_, w_2, kA_, w_A, kMb_, kM_, w_M, w_aNil, kaCb_, kaC_, w_aCons, w_oNo, koAt_i, w_oAt, kSlc_, kSlb_, kSl_, w_Sl, ktB_, w_tB, bl_bl, ktT_, w_tTr, ktAnd_, w_tAnd, ktOr_, w_tOr, ktNot_, w_tNot, w_tYes, kIf_, w_If, kAnd_b, kOr_b, w_And, w_Or, ktL_, kbL_, kbF_, lentT_o, lentT_f, lentB_o, lentB_f, w_tBor, w_Bor, flat_int, flat_bl, flat_str, flat_non, kS_nx, kS_bk, kS_ct, kS_rt, w_Seq, kJ_s, w_J, w_Nx, w_Bk, w_Ct, kSet_, w_Set, kAugb_, kAugc_, kAug_, w_Aug, kParb_, kPar_, w_Par, gAt_some, kAsg_, w_Asg, kDrop_, w_Drop, kRet_, w_Ret, w_RetN, kIfS_, w_IfS, kApp_, kApp2_, appAt_, w_App, kPut_, putAt_, kPut2_, kPut3_, w_Put, w_Frz, frz_eq, frz1_ow, frz1_fz, kSetO_, w_SetO, kUp_, w_Up, kO_, w_O, dAt_, kFz_, w_Fz, rAt_ow, kRetO_, w_RetO, fEnd_rt, fEnd_nx, w_Fn, w_noEx, w_arNil, karb_, kar_, w_arCons, kasb_, kas_, w_arSlot, callAt_, kBack_, kCall_, w_Call, pull_nil, pull_fz, pull_sl, pull1_ow, push_nil, push_fz, push_sl, push1_ow, outs_nil, outs_f, outs_o, gN_ap, gTp_ap, gsNil_ap, gsCons_ap, kFor_, w_For, kiR_, w_iR, kiS_l, kiS_t, kiE_l, kiE_t, kiC_s, w_iC, w_iS, w_iE, kRnd_nx, kRnd_ct, kRnd_bk, kRnd_rt, kLcB_, kLcBO_, kLc_, kLcO_, w_Lc, w_LcO, kLcT_, kLcE_, v_add, v_sub, v_mul, v_div, v_mod, v_pow, v_ltA, v_leA, v_gtA, v_geA, v_eqA, v_neA, v_eqAs, v_eqAb, v_plusI, v_max2i, v_min2i, v_one, v_lenL, v_lenT, v_intI, v_tupL, v_tupT, v_lstL, v_lstT, v_sumL, v_sumT, v_maxL, v_minL, u_isN, u_notN, v_isT, v_not, u_neg, v_slL, v_slT, v_ixL, v_ixT, v_r1, v_r2, v_mulW, v_divW, v_gcdI, v_absI, v_sumR, v_foLstT, v_foLstL, v_foLst, v_tupOf, v_lstOf, o_fz, o_ol, o_nil, o_cons, at0, at1, at2, at3, at4, at5, at6, at7, ix_1_0, ix_2_0, ix_2_1, ix_3_0, ix_3_1, ix_3_2, ix_4_0, ix_4_1, ix_4_2, ix_4_3, ix_5_0, ix_5_1, ix_5_2, ix_5_3, ix_5_4, ix_6_0, ix_6_1, ix_6_2, ix_6_3, ix_6_4, ix_6_5, ix_7_0, ix_7_1, ix_7_2, ix_7_3, ix_7_4, ix_7_5, ix_7_6, ix_8_0, ix_8_1, ix_8_2, ix_8_3, ix_8_4, ix_8_5, ix_8_6, ix_8_7, ix_9_0, ix_9_1, ix_9_2, ix_9_3, ix_9_4, ix_9_5, ix_9_6, ix_9_7, ix_9_8, ix_10_0, ix_10_1, ix_10_2, ix_10_3, ix_10_4, ix_10_5, ix_10_6, ix_10_7, ix_10_8, ix_10_9, ix_11_0, ix_11_1, ix_11_2, ix_11_3, ix_11_4, ix_11_5, ix_11_6, ix_11_7, ix_11_8, ix_11_9, ix_11_10, ix_12_0, ix_12_1, ix_12_2, ix_12_3, ix_12_4, ix_12_5, ix_12_6, ix_12_7, ix_12_8, ix_12_9, ix_12_10, ix_12_11, isT_tuple_non, isT_tuple_bl, isT_tuple_int, isT_tuple_str, isT_tuple_tup, isT_tuple_lst, isT_int_non, isT_int_bl, isT_int_int, isT_int_str, isT_int_tup, isT_int_lst, isT_bool_non, isT_bool_bl, isT_bool_int, isT_bool_str, isT_bool_tup, isT_bool_lst, isT_str_non, isT_str_bl, isT_str_int, isT_str_str, isT_str_tup, isT_str_lst, isT_list_non, isT_list_bl, isT_list_int, isT_list_str, isT_list_tup, isT_list_lst, isN_non, isN_bl, isN_int, isN_str, isN_tup, isN_lst, at_ints, sz_iff, big_iff, div_iff, mod_iff, mul_iff, mulW_iff, divW_iff, pow_iff, List.getElem?_cons_succ, List.getElem?_cons_zero, List.set_cons_zero, List.set_cons_succ, List.cons_append, List.nil_append, List.replicate, Option.map_some, Option.bind_some, decide_eq_true_eq, decide_eq_false_iff_not, Option.some.injEq, exists_eq_left', Bool.not_eq_true', Bool.not_eq_false', Bool.not_true, Bool.not_false, Int.not_lt, Int.not_le, true_and, and_true, if_true, List.length_cons, List.length_nil, List.map_cons, List.map_nil, true_imp_iff, false_imp_iff, imp_self, imp_true_iff, not_true_eq_false, not_false_eq_true, List.length_map, Bool.false_eq_true, if_false, Bool.true_eq_false, reduceCtorEq, nos, backs, Sl.keep, decide_true, decide_false, ilist_map, O.lf, List.contains_cons, List.contains_nil, Bool.and_eq_true, beq_self_eq_true, Bool.or_false, Bool.or_true, Bool.true_or, Bool.false_or, and_self, if_pos, gAt_some, ds_fz, Nat.reduceBEq, Nat.reduceEqDiff, ite_self, rangeD_len, numbered_len, Int.toNat_natCast, Nat.reduceAdd, Int.reduceMod, Int.reduceDiv, Int.reduceLT, Int.reduceLE, Int.reduceNeg, Int.reduceMul, Int.reduceAdd, Int.reduceSub, Int.reducePow, Nat.reduceAdd, Nat.reduceLT, Nat.reduceLeDiff, Int.reduceEq, true_or, or_true, Int.reduceToNat, Int.toNat_zero, Int.toNat_one, List.length_set, List.length_append, List.length_singleton, Int.reduceAbs]
      refine ⟨fun h => ?_, fun _ => ⟨w1, o4, _, hw1, ho4, rfl⟩⟩
      refine draw_wp (by assumption) (by omega) (by omega) fun x5 o5 hx5 kx5 ho5 => ?_; simp only [w_some, w_ofIf, w_ofMap, vAt_fz, w_var, w_C, k1_, w_1, k2b_, k2_, w_2, kA_, w_A, kMb_, kM_, w_M, w_aNil, kaCb_, kaC_, w_aCons, w_oNo, koAt_i, w_oAt, kSlc_, kSlb_, kSl_, w_Sl, ktB_, w_tB, bl_bl, ktT_, w_tTr, ktAnd_, w_tAnd, ktOr_, w_tOr, ktNot_, w_tNot, w_tYes, kIf_, w_If, kAnd_b, kOr_b, w_And, w_Or, ktL_, kbL_, kbF_, lentT_o, lentT_f, lentB_o, lentB_f, w_tBor, w_Bor, flat_int, flat_bl, flat_str, flat_non, kS_nx, kS_bk, kS_ct, kS_rt, w_Seq, kJ_s, w_J, w_Nx, w_Bk, w_Ct, kSet_, w_Set, kAugb_, kAugc_, kAug_, w_Aug, kParb_, kPar_, w_Par, gAt_some, kAsg_, w_Asg, kDrop_, w_Drop, kRet_, w_Ret, w_RetN, kIfS_, w_IfS, kApp_, kApp2_, appAt_, w_App, kPut_, putAt_, kPut2_, kPut3_, w_Put, w_Frz, frz_eq, frz1_ow, frz1_fz, kSetO_, w_SetO, kUp_, w_Up, kO_, w_O, dAt_, kFz_, w_Fz, rAt_ow, kRetO_, w_RetO, fEnd_rt, fEnd_nx, w_Fn, w_noEx, w_arNil, karb_, kar_, w_arCons, kasb_, kas_, w_arSlot, callAt_, kBack_, kCall_, w_Call, pull_nil, pull_fz, pull_sl, pull1_ow, push_nil, push_fz, push_sl, push1_ow, outs_nil, outs_f, outs_o, gN_ap, gTp_ap, gsNil_ap, gsCons_ap, kFor_, w_For, kiR_, w_iR, kiS_l, kiS_t, kiE_l, kiE_t, kiC_s, w_iC, w_iS, w_iE, kRnd_nx, kRnd_ct, kRnd_bk, kRnd_rt, kLcB_, kLcBO_, kLc_, kLcO_, w_Lc, w_LcO, kLcT_, kLcE_, v_add, v_sub, v_mul, v_div, v_mod, v_pow, v_ltA, v_leA, v_gtA, v_geA, v_eqA, v_neA, v_eqAs, v_eqAb, v_plusI, v_max2i, v_min2i, v_one, v_lenL, v_lenT, v_intI, v_tupL, v_tupT, v_lstL, v_lstT, v_sumL, v_sumT, v_maxL, v_minL, u_isN, u_notN, v_isT, v_not, u_neg, v_slL, v_slT, v_ixL, v_ixT, v_r1, v_r2, v_mulW, v_divW, v_gcdI, v_absI, v_sumR, v_foLstT, v_foLstL, v_foLst, v_tupOf, v_lstOf, o_fz, o_ol, o_nil, o_cons, at0, at1, at2, at3, at4, at5, at6, at7, ix_1_0, ix_2_0, ix_2_1, ix_3_0, ix_3_1, ix_3_2, ix_4_0, ix_4_1, ix_4_2, ix_4_3, ix_5_0, ix_5_1, ix_5_2, ix_5_3, ix_5_4, ix_6_0, ix_6_1, ix_6_2, ix_6_3, ix_6_4, ix_6_5, ix_7_0, ix_7_1, ix_7_2, ix_7_3, ix_7_4, ix_7_5, ix_7_6, ix_8_0, ix_8_1, ix_8_2, ix_8_3, ix_8_4, ix_8_5, ix_8_6, ix_8_7, ix_9_0, ix_9_1, ix_9_2, ix_9_3, ix_9_4, ix_9_5, ix_9_6, ix_9_7, ix_9_8, ix_10_0, ix_10_1, ix_10_2, ix_10_3, ix_10_4, ix_10_5, ix_10_6, ix_10_7, ix_10_8, ix_10_9, ix_11_0, ix_11_1, ix_11_2, ix_11_3, ix_11_4, ix_11_5, ix_11_6, ix_11_7, ix_11_8, ix_11_9, ix_11_10, ix_12_0, ix_12_1, ix_12_2, ix_12_3, ix_12_4, ix_12_5, ix_12_6, ix_12_7, ix_12_8, ix_12_9, ix_12_10, ix_12_11, isT_tuple_non, isT_tuple_bl, isT_tuple_int, isT_tuple_str, isT_tuple_tup, isT_tuple_lst, isT_int_non, isT_int_bl, isT_int_int, isT_int_str, isT_int_tup, isT_int_lst, isT_bool_non, isT_bool_bl, isT_bool_int, isT_bool_str, isT_bool_tup, isT_bool_lst, isT_str_non, isT_str_bl, isT_str_int, isT_str_str, isT_str_tup, isT_str_lst, isT_list_non, isT_list_bl, isT_list_int, isT_list_str, isT_list_tup, isT_list_lst, isN_non, isN_bl, isN_int, isN_str, isN_tup, isN_lst, at_ints, sz_iff, big_iff, div_iff, mod_iff, mul_iff, mulW_iff, divW_iff, pow_iff, List.getElem?_cons_succ, List.getElem?_cons_zero, List.set_cons_zero, List.set_cons_succ, List.cons_append, List.nil_append, List.replicate, Option.map_some, Option.bind_some, decide_eq_true_eq, decide_eq_false_iff_not, Option.some.injEq, exists_eq_left', Bool.not_eq_true', Bool.not_eq_false', Bool.not_true, Bool.not_false, Int.not_lt, Int.not_le, true_and, and_true, if_true, List.length_cons, List.length_nil, List.map_cons, List.map_nil, true_imp_iff, false_imp_iff, imp_self, imp_true_iff, not_true_eq_false, not_false_eq_true, List.length_map, Bool.false_eq_true, if_false, Bool.true_eq_false, reduceCtorEq, nos, backs, Sl.keep, decide_true, decide_false, ilist_map, O.lf, List.contains_cons, List.contains_nil, Bool.and_eq_true, beq_self_eq_true, Bool.or_false, Bool.or_true, Bool.true_or, Bool.false_or, and_self, if_pos, gAt_some, ds_fz, Nat.reduceBEq, Nat.reduceEqDiff, ite_self, rangeD_len, numbered_len, Int.toNat_natCast, Nat.reduceAdd, Int.reduceMod, Int.reduceDiv, Int.reduceLT, Int.reduceLE, Int.reduceNeg, Int.reduceMul, Int.reduceAdd, Int.reduceSub, Int.reducePow, Nat.reduceAdd, Nat.reduceLT, Nat.reduceLeDiff, Int.reduceEq, true_or, or_true, Int.reduceToNat, Int.toNat_zero, Int.toNat_one, List.length_set, List.length_append, List.length_singleton, Int.reduceAbs]
      refine ⟨fun _ => ?_, fun _ => ⟨w1, o5, _, hw1, ho5, rfl⟩⟩
      obtain ⟨wf, ef, hf⟩ := hmem 0 (by omega) (by omega)
      obtain ⟨b1, b2, b3⟩ := hf
      obtain ⟨c1, c2, c3⟩ := hw1
      simp only [at_strs, ef, w_some, w_ofIf, w_ofMap, vAt_fz, w_var, w_C, k1_, w_1, k2b_, k2_, w_2, kA_, w_A, kMb_, kM_, w_M, w_aNil, kaCb_, kaC_, w_aCons, w_oNo, koAt_i, w_oAt, kSlc_, kSlb_, kSl_, w_Sl, ktB_, w_tB, bl_bl, ktT_, w_tTr, ktAnd_, w_tAnd, ktOr_, w_tOr, ktNot_, w_tNot, w_tYes, kIf_, w_If, kAnd_b, kOr_b, w_And, w_Or, ktL_, kbL_, kbF_, lentT_o, lentT_f, lentB_o, lentB_f, w_tBor, w_Bor, flat_int, flat_bl, flat_str, flat_non, kS_nx, kS_bk, kS_ct, kS_rt, w_Seq, kJ_s, w_J, w_Nx, w_Bk, w_Ct, kSet_, w_Set, kAugb_, kAugc_, kAug_, w_Aug, kParb_, kPar_, w_Par, gAt_some, kAsg_, w_Asg, kDrop_, w_Drop, kRet_, w_Ret, w_RetN, kIfS_, w_IfS, kApp_, kApp2_, appAt_, w_App, kPut_, putAt_, kPut2_, kPut3_, w_Put, w_Frz, frz_eq, frz1_ow, frz1_fz, kSetO_, w_SetO, kUp_, w_Up, kO_, w_O, dAt_, kFz_, w_Fz, rAt_ow, kRetO_, w_RetO, fEnd_rt, fEnd_nx, w_Fn, w_noEx, w_arNil, karb_, kar_, w_arCons, kasb_, kas_, w_arSlot, callAt_, kBack_, kCall_, w_Call, pull_nil, pull_fz, pull_sl, pull1_ow, push_nil, push_fz, push_sl, push1_ow, outs_nil, outs_f, outs_o, gN_ap, gTp_ap, gsNil_ap, gsCons_ap, kFor_, w_For, kiR_, w_iR, kiS_l, kiS_t, kiE_l, kiE_t, kiC_s, w_iC, w_iS, w_iE, kRnd_nx, kRnd_ct, kRnd_bk, kRnd_rt, kLcB_, kLcBO_, kLc_, kLcO_, w_Lc, w_LcO, kLcT_, kLcE_, v_add, v_sub, v_mul, v_div, v_mod, v_pow, v_ltA, v_leA, v_gtA, v_geA, v_eqA, v_neA, v_eqAs, v_eqAb, v_plusI, v_max2i, v_min2i, v_one, v_lenL, v_lenT, v_intI, v_tupL, v_tupT, v_lstL, v_lstT, v_sumL, v_sumT, v_maxL, v_minL, u_isN, u_notN, v_isT, v_not, u_neg, v_slL, v_slT, v_ixL, v_ixT, v_r1, v_r2, v_mulW, v_divW, v_gcdI, v_absI, v_sumR, v_foLstT, v_foLstL, v_foLst, v_tupOf, v_lstOf, o_fz, o_ol, o_nil, o_cons, at0, at1, at2, at3, at4, at5, at6, at7, ix_1_0, ix_2_0, ix_2_1, ix_3_0, ix_3_1, ix_3_2, ix_4_0, ix_4_1, ix_4_2, ix_4_3, ix_5_0, ix_5_1, ix_5_2, ix_5_3, ix_5_4, ix_6_0, ix_6_1, ix_6_2, ix_6_3, ix_6_4, ix_6_5, ix_7_0, ix_7_1, ix_7_2, ix_7_3, ix_7_4, ix_7_5, ix_7_6, ix_8_0, ix_8_1, ix_8_2, ix_8_3, ix_8_4, ix_8_5, ix_8_6, ix_8_7, ix_9_0, ix_9_1, ix_9_2, ix_9_3, ix_9_4, ix_9_5, ix_9_6, ix_9_7, ix_9_8, ix_10_0, ix_10_1, ix_10_2, ix_10_3, ix_10_4, ix_10_5, ix_10_6, ix_10_7, ix_10_8, ix_10_9, ix_11_0, ix_11_1, ix_11_2, ix_11_3, ix_11_4, ix_11_5, ix_11_6, ix_11_7, ix_11_8, ix_11_9, ix_11_10, ix_12_0, ix_12_1, ix_12_2, ix_12_3, ix_12_4, ix_12_5, ix_12_6, ix_12_7, ix_12_8, ix_12_9, ix_12_10, ix_12_11, isT_tuple_non, isT_tuple_bl, isT_tuple_int, isT_tuple_str, isT_tuple_tup, isT_tuple_lst, isT_int_non, isT_int_bl, isT_int_int, isT_int_str, isT_int_tup, isT_int_lst, isT_bool_non, isT_bool_bl, isT_bool_int, isT_bool_str, isT_bool_tup, isT_bool_lst, isT_str_non, isT_str_bl, isT_str_int, isT_str_str, isT_str_tup, isT_str_lst, isT_list_non, isT_list_bl, isT_list_int, isT_list_str, isT_list_tup, isT_list_lst, isN_non, isN_bl, isN_int, isN_str, isN_tup, isN_lst, at_ints, sz_iff, big_iff, div_iff, mod_iff, mul_iff, mulW_iff, divW_iff, pow_iff, List.getElem?_cons_succ, List.getElem?_cons_zero, List.set_cons_zero, List.set_cons_succ, List.cons_append, List.nil_append, List.replicate, Option.map_some, Option.bind_some, decide_eq_true_eq, decide_eq_false_iff_not, Option.some.injEq, exists_eq_left', Bool.not_eq_true', Bool.not_eq_false', Bool.not_true, Bool.not_false, Int.not_lt, Int.not_le, true_and, and_true, if_true, List.length_cons, List.length_nil, List.map_cons, List.map_nil, true_imp_iff, false_imp_iff, imp_self, imp_true_iff, not_true_eq_false, not_false_eq_true, List.length_map, Bool.false_eq_true, if_false, Bool.true_eq_false, reduceCtorEq, nos, backs, Sl.keep, decide_true, decide_false, ilist_map, O.lf, List.contains_cons, List.contains_nil, Bool.and_eq_true, beq_self_eq_true, Bool.or_false, Bool.or_true, Bool.true_or, Bool.false_or, and_self, if_pos, gAt_some, ds_fz, Nat.reduceBEq, Nat.reduceEqDiff, ite_self, rangeD_len, numbered_len, Int.toNat_natCast, Nat.reduceAdd, Int.reduceMod, Int.reduceDiv, Int.reduceLT, Int.reduceLE, Int.reduceNeg, Int.reduceMul, Int.reduceAdd, Int.reduceSub, Int.reducePow, Nat.reduceAdd, Nat.reduceLT, Nat.reduceLeDiff, Int.reduceEq, true_or, or_true, Int.reduceToNat, Int.toNat_zero, Int.toNat_one, List.length_set, List.length_append, List.length_singleton, Int.reduceAbs, len_str]
      refine ⟨by omega, ?_⟩
      refine draw_wp (by assumption) (by omega) (by omega) fun x6 o6 hx6 kx6 ho6 => ?_; simp only [w_some, w_ofIf, w_ofMap, vAt_fz, w_var, w_C, k1_, w_1, k2b_, k2_, w_2, kA_, w_A, kMb_, kM_, w_M, w_aNil, kaCb_, kaC_, w_aCons, w_oNo, koAt_i, w_oAt, kSlc_, kSlb_, kSl_, w_Sl, ktB_, w_tB, bl_bl, ktT_, w_tTr, ktAnd_, w_tAnd, ktOr_, w_tOr, ktNot_, w_tNot, w_tYes, kIf_, w_If, kAnd_b, kOr_b, w_And, w_Or, ktL_, kbL_, kbF_, lentT_o, lentT_f, lentB_o, lentB_f, w_tBor, w_Bor, flat_int, flat_bl, flat_str, flat_non, kS_nx, kS_bk, kS_ct, kS_rt, w_Seq, kJ_s, w_J, w_Nx, w_Bk, w_Ct, kSet_, w_Set, kAugb_, kAugc_, kAug_, w_Aug, kParb_, kPar_, w_Par, gAt_some, kAsg_, w_Asg, kDrop_, w_Drop, kRet_, w_Ret, w_RetN, kIfS_, w_IfS, kApp_, kApp2_, appAt_, w_App, kPut_, putAt_, kPut2_, kPut3_, w_Put, w_Frz, frz_eq, frz1_ow, frz1_fz, kSetO_, w_SetO, kUp_, w_Up, kO_, w_O, dAt_, kFz_, w_Fz, rAt_ow, kRetO_, w_RetO, fEnd_rt, fEnd_nx, w_Fn, w_noEx, w_arNil, karb_, kar_, w_arCons, kasb_, kas_, w_arSlot, callAt_, kBack_, kCall_, w_Call, pull_nil, pull_fz, pull_sl, pull1_ow, push_nil, push_fz, push_sl, push1_ow, outs_nil, outs_f, outs_o, gN_ap, gTp_ap, gsNil_ap, gsCons_ap, kFor_, w_For, kiR_, w_iR, kiS_l, kiS_t, kiE_l, kiE_t, kiC_s, w_iC, w_iS, w_iE, kRnd_nx, kRnd_ct, kRnd_bk, kRnd_rt, kLcB_, kLcBO_, kLc_, kLcO_, w_Lc, w_LcO, kLcT_, kLcE_, v_add, v_sub, v_mul, v_div, v_mod, v_pow, v_ltA, v_leA, v_gtA, v_geA, v_eqA, v_neA, v_eqAs, v_eqAb, v_plusI, v_max2i, v_min2i, v_one, v_lenL, v_lenT, v_intI, v_tupL, v_tupT, v_lstL, v_lstT, v_sumL, v_sumT, v_maxL, v_minL, u_isN, u_notN, v_isT, v_not, u_neg, v_slL, v_slT, v_ixL, v_ixT, v_r1, v_r2, v_mulW, v_divW, v_gcdI, v_absI, v_sumR, v_foLstT, v_foLstL, v_foLst, v_tupOf, v_lstOf, o_fz, o_ol, o_nil, o_cons, at0, at1, at2, at3, at4, at5, at6, at7, ix_1_0, ix_2_0, ix_2_1, ix_3_0, ix_3_1, ix_3_2, ix_4_0, ix_4_1, ix_4_2, ix_4_3, ix_5_0, ix_5_1, ix_5_2, ix_5_3, ix_5_4, ix_6_0, ix_6_1, ix_6_2, ix_6_3, ix_6_4, ix_6_5, ix_7_0, ix_7_1, ix_7_2, ix_7_3, ix_7_4, ix_7_5, ix_7_6, ix_8_0, ix_8_1, ix_8_2, ix_8_3, ix_8_4, ix_8_5, ix_8_6, ix_8_7, ix_9_0, ix_9_1, ix_9_2, ix_9_3, ix_9_4, ix_9_5, ix_9_6, ix_9_7, ix_9_8, ix_10_0, ix_10_1, ix_10_2, ix_10_3, ix_10_4, ix_10_5, ix_10_6, ix_10_7, ix_10_8, ix_10_9, ix_11_0, ix_11_1, ix_11_2, ix_11_3, ix_11_4, ix_11_5, ix_11_6, ix_11_7, ix_11_8, ix_11_9, ix_11_10, ix_12_0, ix_12_1, ix_12_2, ix_12_3, ix_12_4, ix_12_5, ix_12_6, ix_12_7, ix_12_8, ix_12_9, ix_12_10, ix_12_11, isT_tuple_non, isT_tuple_bl, isT_tuple_int, isT_tuple_str, isT_tuple_tup, isT_tuple_lst, isT_int_non, isT_int_bl, isT_int_int, isT_int_str, isT_int_tup, isT_int_lst, isT_bool_non, isT_bool_bl, isT_bool_int, isT_bool_str, isT_bool_tup, isT_bool_lst, isT_str_non, isT_str_bl, isT_str_int, isT_str_str, isT_str_tup, isT_str_lst, isT_list_non, isT_list_bl, isT_list_int, isT_list_str, isT_list_tup, isT_list_lst, isN_non, isN_bl, isN_int, isN_str, isN_tup, isN_lst, at_ints, sz_iff, big_iff, div_iff, mod_iff, mul_iff, mulW_iff, divW_iff, pow_iff, List.getElem?_cons_succ, List.getElem?_cons_zero, List.set_cons_zero, List.set_cons_succ, List.cons_append, List.nil_append, List.replicate, Option.map_some, Option.bind_some, decide_eq_true_eq, decide_eq_false_iff_not, Option.some.injEq, exists_eq_left', Bool.not_eq_true', Bool.not_eq_false', Bool.not_true, Bool.not_false, Int.not_lt, Int.not_le, true_and, and_true, if_true, List.length_cons, List.length_nil, List.map_cons, List.map_nil, true_imp_iff, false_imp_iff, imp_self, imp_true_iff, not_true_eq_false, not_false_eq_true, List.length_map, Bool.false_eq_true, if_false, Bool.true_eq_false, reduceCtorEq, nos, backs, Sl.keep, decide_true, decide_false, ilist_map, O.lf, List.contains_cons, List.contains_nil, Bool.and_eq_true, beq_self_eq_true, Bool.or_false, Bool.or_true, Bool.true_or, Bool.false_or, and_self, if_pos, gAt_some, ds_fz, Nat.reduceBEq, Nat.reduceEqDiff, ite_self, rangeD_len, numbered_len, Int.toNat_natCast, Nat.reduceAdd, Int.reduceMod, Int.reduceDiv, Int.reduceLT, Int.reduceLE, Int.reduceNeg, Int.reduceMul, Int.reduceAdd, Int.reduceSub, Int.reducePow, Nat.reduceAdd, Nat.reduceLT, Nat.reduceLeDiff, Int.reduceEq, true_or, or_true, Int.reduceToNat, Int.toNat_zero, Int.toNat_one, List.length_set, List.length_append, List.length_singleton, Int.reduceAbs]
      obtain ⟨c0, ec, hc0⟩ := atI_all (xs := w1.cps.toList) (i := 0) (fun c => 97 ≤ c ∧ c ≤ 122) (by decide) (by rw [← len_eq]; omega) c3
      simp only [at_strs, ef, w_some, w_ofIf, w_ofMap, vAt_fz, w_var, w_C, k1_, w_1, k2b_, k2_, w_2, kA_, w_A, kMb_, kM_, w_M, w_aNil, kaCb_, kaC_, w_aCons, w_oNo, koAt_i, w_oAt, kSlc_, kSlb_, kSl_, w_Sl, ktB_, w_tB, bl_bl, ktT_, w_tTr, ktAnd_, w_tAnd, ktOr_, w_tOr, ktNot_, w_tNot, w_tYes, kIf_, w_If, kAnd_b, kOr_b, w_And, w_Or, ktL_, kbL_, kbF_, lentT_o, lentT_f, lentB_o, lentB_f, w_tBor, w_Bor, flat_int, flat_bl, flat_str, flat_non, kS_nx, kS_bk, kS_ct, kS_rt, w_Seq, kJ_s, w_J, w_Nx, w_Bk, w_Ct, kSet_, w_Set, kAugb_, kAugc_, kAug_, w_Aug, kParb_, kPar_, w_Par, gAt_some, kAsg_, w_Asg, kDrop_, w_Drop, kRet_, w_Ret, w_RetN, kIfS_, w_IfS, kApp_, kApp2_, appAt_, w_App, kPut_, putAt_, kPut2_, kPut3_, w_Put, w_Frz, frz_eq, frz1_ow, frz1_fz, kSetO_, w_SetO, kUp_, w_Up, kO_, w_O, dAt_, kFz_, w_Fz, rAt_ow, kRetO_, w_RetO, fEnd_rt, fEnd_nx, w_Fn, w_noEx, w_arNil, karb_, kar_, w_arCons, kasb_, kas_, w_arSlot, callAt_, kBack_, kCall_, w_Call, pull_nil, pull_fz, pull_sl, pull1_ow, push_nil, push_fz, push_sl, push1_ow, outs_nil, outs_f, outs_o, gN_ap, gTp_ap, gsNil_ap, gsCons_ap, kFor_, w_For, kiR_, w_iR, kiS_l, kiS_t, kiE_l, kiE_t, kiC_s, w_iC, w_iS, w_iE, kRnd_nx, kRnd_ct, kRnd_bk, kRnd_rt, kLcB_, kLcBO_, kLc_, kLcO_, w_Lc, w_LcO, kLcT_, kLcE_, v_add, v_sub, v_mul, v_div, v_mod, v_pow, v_ltA, v_leA, v_gtA, v_geA, v_eqA, v_neA, v_eqAs, v_eqAb, v_plusI, v_max2i, v_min2i, v_one, v_lenL, v_lenT, v_intI, v_tupL, v_tupT, v_lstL, v_lstT, v_sumL, v_sumT, v_maxL, v_minL, u_isN, u_notN, v_isT, v_not, u_neg, v_slL, v_slT, v_ixL, v_ixT, v_r1, v_r2, v_mulW, v_divW, v_gcdI, v_absI, v_sumR, v_foLstT, v_foLstL, v_foLst, v_tupOf, v_lstOf, o_fz, o_ol, o_nil, o_cons, at0, at1, at2, at3, at4, at5, at6, at7, ix_1_0, ix_2_0, ix_2_1, ix_3_0, ix_3_1, ix_3_2, ix_4_0, ix_4_1, ix_4_2, ix_4_3, ix_5_0, ix_5_1, ix_5_2, ix_5_3, ix_5_4, ix_6_0, ix_6_1, ix_6_2, ix_6_3, ix_6_4, ix_6_5, ix_7_0, ix_7_1, ix_7_2, ix_7_3, ix_7_4, ix_7_5, ix_7_6, ix_8_0, ix_8_1, ix_8_2, ix_8_3, ix_8_4, ix_8_5, ix_8_6, ix_8_7, ix_9_0, ix_9_1, ix_9_2, ix_9_3, ix_9_4, ix_9_5, ix_9_6, ix_9_7, ix_9_8, ix_10_0, ix_10_1, ix_10_2, ix_10_3, ix_10_4, ix_10_5, ix_10_6, ix_10_7, ix_10_8, ix_10_9, ix_11_0, ix_11_1, ix_11_2, ix_11_3, ix_11_4, ix_11_5, ix_11_6, ix_11_7, ix_11_8, ix_11_9, ix_11_10, ix_12_0, ix_12_1, ix_12_2, ix_12_3, ix_12_4, ix_12_5, ix_12_6, ix_12_7, ix_12_8, ix_12_9, ix_12_10, ix_12_11, isT_tuple_non, isT_tuple_bl, isT_tuple_int, isT_tuple_str, isT_tuple_tup, isT_tuple_lst, isT_int_non, isT_int_bl, isT_int_int, isT_int_str, isT_int_tup, isT_int_lst, isT_bool_non, isT_bool_bl, isT_bool_int, isT_bool_str, isT_bool_tup, isT_bool_lst, isT_str_non, isT_str_bl, isT_str_int, isT_str_str, isT_str_tup, isT_str_lst, isT_list_non, isT_list_bl, isT_list_int, isT_list_str, isT_list_tup, isT_list_lst, isN_non, isN_bl, isN_int, isN_str, isN_tup, isN_lst, at_ints, sz_iff, big_iff, div_iff, mod_iff, mul_iff, mulW_iff, divW_iff, pow_iff, List.getElem?_cons_succ, List.getElem?_cons_zero, List.set_cons_zero, List.set_cons_succ, List.cons_append, List.nil_append, List.replicate, Option.map_some, Option.bind_some, decide_eq_true_eq, decide_eq_false_iff_not, Option.some.injEq, exists_eq_left', Bool.not_eq_true', Bool.not_eq_false', Bool.not_true, Bool.not_false, Int.not_lt, Int.not_le, true_and, and_true, if_true, List.length_cons, List.length_nil, List.map_cons, List.map_nil, true_imp_iff, false_imp_iff, imp_self, imp_true_iff, not_true_eq_false, not_false_eq_true, List.length_map, Bool.false_eq_true, if_false, Bool.true_eq_false, reduceCtorEq, nos, backs, Sl.keep, decide_true, decide_false, ilist_map, O.lf, List.contains_cons, List.contains_nil, Bool.and_eq_true, beq_self_eq_true, Bool.or_false, Bool.or_true, Bool.true_or, Bool.false_or, and_self, if_pos, gAt_some, ds_fz, Nat.reduceBEq, Nat.reduceEqDiff, ite_self, rangeD_len, numbered_len, Int.toNat_natCast, Nat.reduceAdd, Int.reduceMod, Int.reduceDiv, Int.reduceLT, Int.reduceLE, Int.reduceNeg, Int.reduceMul, Int.reduceAdd, Int.reduceSub, Int.reducePow, Nat.reduceAdd, Nat.reduceLT, Nat.reduceLeDiff, Int.reduceEq, true_or, or_true, Int.reduceToNat, Int.toNat_zero, Int.toNat_one, List.length_set, List.length_append, List.length_singleton, Int.reduceAbs, sl_str, ix_str, ec, plus_strs, len_app, len_to hx6, len_from (show 0 ≤ x6 + 1 by omega)]
      have e1 : (⟨#[c0]⟩ : Str).length = 1 := rfl
      rw [e1]
      refine ⟨by omega, by omega, by omega, by omega, by omega, _, o6, _, ⟨?_, ?_, ((b3.cut _ _).app fun c hc => ?_).app (b3.cut _ _)⟩, ho6, rfl⟩
      · rw [len_app, len_app, len_to hx6, len_from (show 0 ≤ x6 + 1 by omega), e1]; omega
      · rw [len_app, len_app, len_to hx6, len_from (show 0 ≤ x6 + 1 by omega), e1]; omega
      · simp at hc; subst hc; exact hc0
    rintro _ _ ⟨rfl, w2, o5, s6, hw2, ho5, rfl⟩
    simp only [w_some, w_ofIf, w_ofMap, vAt_fz, w_var, w_C, k1_, w_1, k2b_, k2_, w_2, kA_, w_A, kMb_, kM_, w_M, w_aNil, kaCb_, kaC_, w_aCons, w_oNo, koAt_i, w_oAt, kSlc_, kSlb_, kSl_, w_Sl, ktB_, w_tB, bl_bl, ktT_, w_tTr, ktAnd_, w_tAnd, ktOr_, w_tOr, ktNot_, w_tNot, w_tYes, kIf_, w_If, kAnd_b, kOr_b, w_And, w_Or, ktL_, kbL_, kbF_, lentT_o, lentT_f, lentB_o, lentB_f, w_tBor, w_Bor, flat_int, flat_bl, flat_str, flat_non, kS_nx, kS_bk, kS_ct, kS_rt, w_Seq, kJ_s, w_J, w_Nx, w_Bk, w_Ct, kSet_, w_Set, kAugb_, kAugc_, kAug_, w_Aug, kParb_, kPar_, w_Par, gAt_some, kAsg_, w_Asg, kDrop_, w_Drop, kRet_, w_Ret, w_RetN, kIfS_, kApp_, kApp2_, appAt_, w_App, kPut_, putAt_, kPut2_, kPut3_, w_Put, w_Frz, frz_eq, frz1_ow, frz1_fz, kSetO_, w_SetO, kUp_, w_Up, kO_, w_O, dAt_, kFz_, w_Fz, rAt_ow, kRetO_, w_RetO, fEnd_rt, fEnd_nx, w_Fn, w_noEx, w_arNil, karb_, kar_, w_arCons, kasb_, kas_, w_arSlot, callAt_, kBack_, kCall_, w_Call, pull_nil, pull_fz, pull_sl, pull1_ow, push_nil, push_fz, push_sl, push1_ow, outs_nil, outs_f, outs_o, gN_ap, gTp_ap, gsNil_ap, gsCons_ap, kFor_, w_For, kiR_, w_iR, kiS_l, kiS_t, kiE_l, kiE_t, kiC_s, w_iC, w_iS, w_iE, kRnd_nx, kRnd_ct, kRnd_bk, kRnd_rt, kLcB_, kLcBO_, kLc_, kLcO_, w_Lc, w_LcO, kLcT_, kLcE_, v_add, v_sub, v_mul, v_div, v_mod, v_pow, v_ltA, v_leA, v_gtA, v_geA, v_eqA, v_neA, v_eqAs, v_eqAb, v_plusI, v_max2i, v_min2i, v_one, v_lenL, v_lenT, v_intI, v_tupL, v_tupT, v_lstL, v_lstT, v_sumL, v_sumT, v_maxL, v_minL, u_isN, u_notN, v_isT, v_not, u_neg, v_slL, v_slT, v_ixL, v_ixT, v_r1, v_r2, v_mulW, v_divW, v_gcdI, v_absI, v_sumR, v_foLstT, v_foLstL, v_foLst, v_tupOf, v_lstOf, o_fz, o_ol, o_nil, o_cons, at0, at1, at2, at3, at4, at5, at6, at7, ix_1_0, ix_2_0, ix_2_1, ix_3_0, ix_3_1, ix_3_2, ix_4_0, ix_4_1, ix_4_2, ix_4_3, ix_5_0, ix_5_1, ix_5_2, ix_5_3, ix_5_4, ix_6_0, ix_6_1, ix_6_2, ix_6_3, ix_6_4, ix_6_5, ix_7_0, ix_7_1, ix_7_2, ix_7_3, ix_7_4, ix_7_5, ix_7_6, ix_8_0, ix_8_1, ix_8_2, ix_8_3, ix_8_4, ix_8_5, ix_8_6, ix_8_7, ix_9_0, ix_9_1, ix_9_2, ix_9_3, ix_9_4, ix_9_5, ix_9_6, ix_9_7, ix_9_8, ix_10_0, ix_10_1, ix_10_2, ix_10_3, ix_10_4, ix_10_5, ix_10_6, ix_10_7, ix_10_8, ix_10_9, ix_11_0, ix_11_1, ix_11_2, ix_11_3, ix_11_4, ix_11_5, ix_11_6, ix_11_7, ix_11_8, ix_11_9, ix_11_10, ix_12_0, ix_12_1, ix_12_2, ix_12_3, ix_12_4, ix_12_5, ix_12_6, ix_12_7, ix_12_8, ix_12_9, ix_12_10, ix_12_11, isT_tuple_non, isT_tuple_bl, isT_tuple_int, isT_tuple_str, isT_tuple_tup, isT_tuple_lst, isT_int_non, isT_int_bl, isT_int_int, isT_int_str, isT_int_tup, isT_int_lst, isT_bool_non, isT_bool_bl, isT_bool_int, isT_bool_str, isT_bool_tup, isT_bool_lst, isT_str_non, isT_str_bl, isT_str_int, isT_str_str, isT_str_tup, isT_str_lst, isT_list_non, isT_list_bl, isT_list_int, isT_list_str, isT_list_tup, isT_list_lst, isN_non, isN_bl, isN_int, isN_str, isN_tup, isN_lst, at_ints, sz_iff, big_iff, div_iff, mod_iff, mul_iff, mulW_iff, divW_iff, pow_iff, List.getElem?_cons_succ, List.getElem?_cons_zero, List.set_cons_zero, List.set_cons_succ, List.cons_append, List.nil_append, List.replicate, Option.map_some, Option.bind_some, decide_eq_true_eq, decide_eq_false_iff_not, Option.some.injEq, exists_eq_left', Bool.not_eq_true', Bool.not_eq_false', Bool.not_true, Bool.not_false, Int.not_lt, Int.not_le, true_and, and_true, if_true, List.length_cons, List.length_nil, List.map_cons, List.map_nil, true_imp_iff, false_imp_iff, imp_self, imp_true_iff, not_true_eq_false, not_false_eq_true, List.length_map, Bool.false_eq_true, if_false, Bool.true_eq_false, reduceCtorEq, nos, backs, Sl.keep, decide_true, decide_false, ilist_map, O.lf, List.contains_cons, List.contains_nil, Bool.and_eq_true, beq_self_eq_true, Bool.or_false, Bool.or_true, Bool.true_or, Bool.false_or, and_self, if_pos, gAt_some, ds_fz, Nat.reduceBEq, Nat.reduceEqDiff, ite_self, rangeD_len, numbered_len, Int.toNat_natCast, Nat.reduceAdd, Int.reduceMod, Int.reduceDiv, Int.reduceLT, Int.reduceLE, Int.reduceNeg, Int.reduceMul, Int.reduceAdd, Int.reduceSub, Int.reducePow, Nat.reduceAdd, Nat.reduceLT, Nat.reduceLeDiff, Int.reduceEq, true_or, or_true, Int.reduceToNat, Int.toNat_zero, Int.toNat_one, List.length_set, List.length_append, List.length_singleton, Int.reduceAbs]
    refine w_mono (P := fun f Γ => f = .nx ∧ ∃ w, Word w ∧ w ∉ ws ∧ Γ = [.ow (some 0) o5, .fz (.int n), .fz (.str abc), .ow none (.ol ((ws.map D.str).map O.fz)), .fz (.int ws.length), .fz (.str w), s6, .no]) ?_ ?_
    · obtain ⟨w, eu, hw3, hw4⟩ := unlike_ok (ws := ws) (by omega)
      simp only [w_some, w_ofIf, w_ofMap, vAt_fz, w_var, w_C, k1_, w_1, k2b_, k2_, w_2, kA_, w_A, kMb_, kM_, w_M, w_aNil, kaCb_, kaC_, w_aCons, w_oNo, koAt_i, w_oAt, kSlc_, kSlb_, kSl_, w_Sl, ktB_, w_tB, bl_bl, ktT_, w_tTr, ktAnd_, w_tAnd, ktOr_, w_tOr, ktNot_, w_tNot, w_tYes, kIf_, w_If, kAnd_b, kOr_b, w_And, w_Or, ktL_, kbL_, kbF_, lentT_o, lentT_f, lentB_o, lentB_f, w_tBor, w_Bor, flat_int, flat_bl, flat_str, flat_non, kS_nx, kS_bk, kS_ct, kS_rt, w_Seq, kJ_s, w_J, w_Nx, w_Bk, w_Ct, kSet_, w_Set, kAugb_, kAugc_, kAug_, w_Aug, kParb_, kPar_, w_Par, gAt_some, kAsg_, w_Asg, kDrop_, w_Drop, kRet_, w_Ret, w_RetN, kIfS_, w_IfS, kApp_, kApp2_, appAt_, w_App, kPut_, putAt_, kPut2_, kPut3_, w_Put, w_Frz, frz_eq, frz1_ow, frz1_fz, kSetO_, w_SetO, kUp_, w_Up, kO_, w_O, dAt_, kFz_, w_Fz, rAt_ow, kRetO_, w_RetO, fEnd_rt, fEnd_nx, w_Fn, w_noEx, w_arNil, karb_, kar_, w_arCons, kasb_, kas_, w_arSlot, callAt_, kBack_, kCall_, w_Call, pull_nil, pull_fz, pull_sl, pull1_ow, push_nil, push_fz, push_sl, push1_ow, outs_nil, outs_f, outs_o, gN_ap, gTp_ap, gsNil_ap, gsCons_ap, kFor_, w_For, kiR_, w_iR, kiS_l, kiS_t, kiE_l, kiE_t, kiC_s, w_iC, w_iS, w_iE, kRnd_nx, kRnd_ct, kRnd_bk, kRnd_rt, kLcB_, kLcBO_, kLc_, kLcO_, w_Lc, w_LcO, kLcT_, kLcE_, v_add, v_sub, v_mul, v_div, v_mod, v_pow, v_ltA, v_leA, v_gtA, v_geA, v_eqA, v_neA, v_eqAs, v_eqAb, v_plusI, v_max2i, v_min2i, v_one, v_lenL, v_lenT, v_intI, v_tupL, v_tupT, v_lstL, v_lstT, v_sumL, v_sumT, v_maxL, v_minL, u_isN, u_notN, v_isT, v_not, u_neg, v_slL, v_slT, v_ixL, v_ixT, v_r1, v_r2, v_mulW, v_divW, v_gcdI, v_absI, v_sumR, v_foLstT, v_foLstL, v_foLst, v_tupOf, v_lstOf, o_fz, o_ol, o_nil, o_cons, at0, at1, at2, at3, at4, at5, at6, at7, ix_1_0, ix_2_0, ix_2_1, ix_3_0, ix_3_1, ix_3_2, ix_4_0, ix_4_1, ix_4_2, ix_4_3, ix_5_0, ix_5_1, ix_5_2, ix_5_3, ix_5_4, ix_6_0, ix_6_1, ix_6_2, ix_6_3, ix_6_4, ix_6_5, ix_7_0, ix_7_1, ix_7_2, ix_7_3, ix_7_4, ix_7_5, ix_7_6, ix_8_0, ix_8_1, ix_8_2, ix_8_3, ix_8_4, ix_8_5, ix_8_6, ix_8_7, ix_9_0, ix_9_1, ix_9_2, ix_9_3, ix_9_4, ix_9_5, ix_9_6, ix_9_7, ix_9_8, ix_10_0, ix_10_1, ix_10_2, ix_10_3, ix_10_4, ix_10_5, ix_10_6, ix_10_7, ix_10_8, ix_10_9, ix_11_0, ix_11_1, ix_11_2, ix_11_3, ix_11_4, ix_11_5, ix_11_6, ix_11_7, ix_11_8, ix_11_9, ix_11_10, ix_12_0, ix_12_1, ix_12_2, ix_12_3, ix_12_4, ix_12_5, ix_12_6, ix_12_7, ix_12_8, ix_12_9, ix_12_10, ix_12_11, isT_tuple_non, isT_tuple_bl, isT_tuple_int, isT_tuple_str, isT_tuple_tup, isT_tuple_lst, isT_int_non, isT_int_bl, isT_int_int, isT_int_str, isT_int_tup, isT_int_lst, isT_bool_non, isT_bool_bl, isT_bool_int, isT_bool_str, isT_bool_tup, isT_bool_lst, isT_str_non, isT_str_bl, isT_str_int, isT_str_str, isT_str_tup, isT_str_lst, isT_list_non, isT_list_bl, isT_list_int, isT_list_str, isT_list_tup, isT_list_lst, isN_non, isN_bl, isN_int, isN_str, isN_tup, isN_lst, at_ints, sz_iff, big_iff, div_iff, mod_iff, mul_iff, mulW_iff, divW_iff, pow_iff, List.getElem?_cons_succ, List.getElem?_cons_zero, List.set_cons_zero, List.set_cons_succ, List.cons_append, List.nil_append, List.replicate, Option.map_some, Option.bind_some, decide_eq_true_eq, decide_eq_false_iff_not, Option.some.injEq, exists_eq_left', Bool.not_eq_true', Bool.not_eq_false', Bool.not_true, Bool.not_false, Int.not_lt, Int.not_le, true_and, and_true, if_true, List.length_cons, List.length_nil, List.map_cons, List.map_nil, true_imp_iff, false_imp_iff, imp_self, imp_true_iff, not_true_eq_false, not_false_eq_true, List.length_map, Bool.false_eq_true, if_false, Bool.true_eq_false, reduceCtorEq, nos, backs, Sl.keep, decide_true, decide_false, ilist_map, O.lf, List.contains_cons, List.contains_nil, Bool.and_eq_true, beq_self_eq_true, Bool.or_false, Bool.or_true, Bool.true_or, Bool.false_or, and_self, if_pos, gAt_some, ds_fz, Nat.reduceBEq, Nat.reduceEqDiff, ite_self, rangeD_len, numbered_len, Int.toNat_natCast, Nat.reduceAdd, Int.reduceMod, Int.reduceDiv, Int.reduceLT, Int.reduceLE, Int.reduceNeg, Int.reduceMul, Int.reduceAdd, Int.reduceSub, Int.reducePow, Nat.reduceAdd, Nat.reduceLT, Nat.reduceLeDiff, Int.reduceEq, true_or, or_true, Int.reduceToNat, Int.toNat_zero, Int.toNat_one, List.length_set, List.length_append, List.length_singleton, Int.reduceAbs, in_strs, eu]
      refine ⟨fun h => ⟨w, hw3, hw4, rfl⟩, fun h => ⟨w2, hw2, ?_, rfl⟩⟩
      simpa using h
    rintro _ _ ⟨rfl, w3, hw3, hw4, rfl⟩
    simp only [w_some, w_ofIf, w_ofMap, vAt_fz, w_var, w_C, k1_, w_1, k2b_, k2_, w_2, kA_, w_A, kMb_, kM_, w_M, w_aNil, kaCb_, kaC_, w_aCons, w_oNo, koAt_i, w_oAt, kSlc_, kSlb_, kSl_, w_Sl, ktB_, w_tB, bl_bl, ktT_, w_tTr, ktAnd_, w_tAnd, ktOr_, w_tOr, ktNot_, w_tNot, w_tYes, kIf_, w_If, kAnd_b, kOr_b, w_And, w_Or, ktL_, kbL_, kbF_, lentT_o, lentT_f, lentB_o, lentB_f, w_tBor, w_Bor, flat_int, flat_bl, flat_str, flat_non, kS_nx, kS_bk, kS_ct, kS_rt, w_Seq, kJ_s, w_J, w_Nx, w_Bk, w_Ct, kSet_, w_Set, kAugb_, kAugc_, kAug_, w_Aug, kParb_, kPar_, w_Par, gAt_some, kAsg_, w_Asg, kDrop_, w_Drop, kRet_, w_Ret, w_RetN, kIfS_, w_IfS, kApp_, kApp2_, appAt_, w_App, kPut_, putAt_, kPut2_, kPut3_, w_Put, w_Frz, frz_eq, frz1_ow, frz1_fz, kSetO_, w_SetO, kUp_, w_Up, kO_, w_O, dAt_, kFz_, w_Fz, rAt_ow, kRetO_, w_RetO, fEnd_rt, fEnd_nx, w_Fn, w_noEx, w_arNil, karb_, kar_, w_arCons, kasb_, kas_, w_arSlot, callAt_, kBack_, kCall_, w_Call, pull_nil, pull_fz, pull_sl, pull1_ow, push_nil, push_fz, push_sl, push1_ow, outs_nil, outs_f, outs_o, gN_ap, gTp_ap, gsNil_ap, gsCons_ap, kFor_, w_For, kiR_, w_iR, kiS_l, kiS_t, kiE_l, kiE_t, kiC_s, w_iC, w_iS, w_iE, kRnd_nx, kRnd_ct, kRnd_bk, kRnd_rt, kLcB_, kLcBO_, kLc_, kLcO_, w_Lc, w_LcO, kLcT_, kLcE_, v_add, v_sub, v_mul, v_div, v_mod, v_pow, v_ltA, v_leA, v_gtA, v_geA, v_eqA, v_neA, v_eqAs, v_eqAb, v_plusI, v_max2i, v_min2i, v_one, v_lenL, v_lenT, v_intI, v_tupL, v_tupT, v_lstL, v_lstT, v_sumL, v_sumT, v_maxL, v_minL, u_isN, u_notN, v_isT, v_not, u_neg, v_slL, v_slT, v_ixL, v_ixT, v_r1, v_r2, v_mulW, v_divW, v_gcdI, v_absI, v_sumR, v_foLstT, v_foLstL, v_foLst, v_tupOf, v_lstOf, o_fz, o_ol, o_nil, o_cons, at0, at1, at2, at3, at4, at5, at6, at7, ix_1_0, ix_2_0, ix_2_1, ix_3_0, ix_3_1, ix_3_2, ix_4_0, ix_4_1, ix_4_2, ix_4_3, ix_5_0, ix_5_1, ix_5_2, ix_5_3, ix_5_4, ix_6_0, ix_6_1, ix_6_2, ix_6_3, ix_6_4, ix_6_5, ix_7_0, ix_7_1, ix_7_2, ix_7_3, ix_7_4, ix_7_5, ix_7_6, ix_8_0, ix_8_1, ix_8_2, ix_8_3, ix_8_4, ix_8_5, ix_8_6, ix_8_7, ix_9_0, ix_9_1, ix_9_2, ix_9_3, ix_9_4, ix_9_5, ix_9_6, ix_9_7, ix_9_8, ix_10_0, ix_10_1, ix_10_2, ix_10_3, ix_10_4, ix_10_5, ix_10_6, ix_10_7, ix_10_8, ix_10_9, ix_11_0, ix_11_1, ix_11_2, ix_11_3, ix_11_4, ix_11_5, ix_11_6, ix_11_7, ix_11_8, ix_11_9, ix_11_10, ix_12_0, ix_12_1, ix_12_2, ix_12_3, ix_12_4, ix_12_5, ix_12_6, ix_12_7, ix_12_8, ix_12_9, ix_12_10, ix_12_11, isT_tuple_non, isT_tuple_bl, isT_tuple_int, isT_tuple_str, isT_tuple_tup, isT_tuple_lst, isT_int_non, isT_int_bl, isT_int_int, isT_int_str, isT_int_tup, isT_int_lst, isT_bool_non, isT_bool_bl, isT_bool_int, isT_bool_str, isT_bool_tup, isT_bool_lst, isT_str_non, isT_str_bl, isT_str_int, isT_str_str, isT_str_tup, isT_str_lst, isT_list_non, isT_list_bl, isT_list_int, isT_list_str, isT_list_tup, isT_list_lst, isN_non, isN_bl, isN_int, isN_str, isN_tup, isN_lst, at_ints, sz_iff, big_iff, div_iff, mod_iff, mul_iff, mulW_iff, divW_iff, pow_iff, List.getElem?_cons_succ, List.getElem?_cons_zero, List.set_cons_zero, List.set_cons_succ, List.cons_append, List.nil_append, List.replicate, Option.map_some, Option.bind_some, decide_eq_true_eq, decide_eq_false_iff_not, Option.some.injEq, exists_eq_left', Bool.not_eq_true', Bool.not_eq_false', Bool.not_true, Bool.not_false, Int.not_lt, Int.not_le, true_and, and_true, if_true, List.length_cons, List.length_nil, List.map_cons, List.map_nil, true_imp_iff, false_imp_iff, imp_self, imp_true_iff, not_true_eq_false, not_false_eq_true, List.length_map, Bool.false_eq_true, if_false, Bool.true_eq_false, reduceCtorEq, nos, backs, Sl.keep, decide_true, decide_false, ilist_map, O.lf, List.contains_cons, List.contains_nil, Bool.and_eq_true, beq_self_eq_true, Bool.or_false, Bool.or_true, Bool.true_or, Bool.false_or, and_self, if_pos, gAt_some, ds_fz, Nat.reduceBEq, Nat.reduceEqDiff, ite_self, rangeD_len, numbered_len, Int.toNat_natCast, Nat.reduceAdd, Int.reduceMod, Int.reduceDiv, Int.reduceLT, Int.reduceLE, Int.reduceNeg, Int.reduceMul, Int.reduceAdd, Int.reduceSub, Int.reducePow, Nat.reduceAdd, Nat.reduceLT, Nat.reduceLeDiff, Int.reduceEq, true_or, or_true, Int.reduceToNat, Int.toNat_zero, Int.toNat_one, List.length_set, List.length_append, List.length_singleton, Int.reduceAbs]
    refine ⟨by omega, ws ++ [w3], o5, _, _, _, ⟨?_, fun w h => ?_⟩, by simp, ho5, by simp only [List.map_append, List.map_cons, List.map_nil]; rfl⟩
    · rw [List.nodup_append]
      exact ⟨hnd, by simp, fun a ha b hb e => hw4 (by rw [← List.mem_singleton.mp hb, ← e]; exact ha)⟩
    · rcases List.mem_append.mp h with h | h
      · exact hw w h
      · rw [List.mem_singleton.mp h]; exact hw3
  · rintro Γ ⟨ws, o', s4, s5, s6, hw, hl, ho', rfl⟩
    rw [rangeD_len] at hl
    simp only [w_some, w_ofIf, w_ofMap, vAt_fz, w_var, w_C, k1_, w_1, k2b_, k2_, w_2, kA_, w_A, kMb_, kM_, w_M, w_aNil, kaCb_, kaC_, w_aCons, w_oNo, koAt_i, w_oAt, kSlc_, kSlb_, kSl_, w_Sl, ktB_, w_tB, bl_bl, ktT_, w_tTr, ktAnd_, w_tAnd, ktOr_, w_tOr, ktNot_, w_tNot, w_tYes, kIf_, w_If, kAnd_b, kOr_b, w_And, w_Or, ktL_, kbL_, kbF_, lentT_o, lentT_f, lentB_o, lentB_f, w_tBor, w_Bor, flat_int, flat_bl, flat_str, flat_non, kS_nx, kS_bk, kS_ct, kS_rt, w_Seq, kJ_s, w_J, w_Nx, w_Bk, w_Ct, kSet_, w_Set, kAugb_, kAugc_, kAug_, w_Aug, kParb_, kPar_, w_Par, gAt_some, kAsg_, w_Asg, kDrop_, w_Drop, kRet_, w_Ret, w_RetN, kIfS_, w_IfS, kApp_, kApp2_, appAt_, w_App, kPut_, putAt_, kPut2_, kPut3_, w_Put, w_Frz, frz_eq, frz1_ow, frz1_fz, kSetO_, w_SetO, kUp_, w_Up, kO_, w_O, dAt_, kFz_, w_Fz, rAt_ow, kRetO_, w_RetO, fEnd_rt, fEnd_nx, w_Fn, w_noEx, w_arNil, karb_, kar_, w_arCons, kasb_, kas_, w_arSlot, callAt_, kBack_, kCall_, w_Call, pull_nil, pull_fz, pull_sl, pull1_ow, push_nil, push_fz, push_sl, push1_ow, outs_nil, outs_f, outs_o, gN_ap, gTp_ap, gsNil_ap, gsCons_ap, kFor_, w_For, kiR_, w_iR, kiS_l, kiS_t, kiE_l, kiE_t, kiC_s, w_iC, w_iS, w_iE, kRnd_nx, kRnd_ct, kRnd_bk, kRnd_rt, kLcB_, kLcBO_, kLc_, kLcO_, w_Lc, w_LcO, kLcT_, kLcE_, v_add, v_sub, v_mul, v_div, v_mod, v_pow, v_ltA, v_leA, v_gtA, v_geA, v_eqA, v_neA, v_eqAs, v_eqAb, v_plusI, v_max2i, v_min2i, v_one, v_lenL, v_lenT, v_intI, v_tupL, v_tupT, v_lstL, v_lstT, v_sumL, v_sumT, v_maxL, v_minL, u_isN, u_notN, v_isT, v_not, u_neg, v_slL, v_slT, v_ixL, v_ixT, v_r1, v_r2, v_mulW, v_divW, v_gcdI, v_absI, v_sumR, v_foLstT, v_foLstL, v_foLst, v_tupOf, v_lstOf, o_fz, o_ol, o_nil, o_cons, at0, at1, at2, at3, at4, at5, at6, at7, ix_1_0, ix_2_0, ix_2_1, ix_3_0, ix_3_1, ix_3_2, ix_4_0, ix_4_1, ix_4_2, ix_4_3, ix_5_0, ix_5_1, ix_5_2, ix_5_3, ix_5_4, ix_6_0, ix_6_1, ix_6_2, ix_6_3, ix_6_4, ix_6_5, ix_7_0, ix_7_1, ix_7_2, ix_7_3, ix_7_4, ix_7_5, ix_7_6, ix_8_0, ix_8_1, ix_8_2, ix_8_3, ix_8_4, ix_8_5, ix_8_6, ix_8_7, ix_9_0, ix_9_1, ix_9_2, ix_9_3, ix_9_4, ix_9_5, ix_9_6, ix_9_7, ix_9_8, ix_10_0, ix_10_1, ix_10_2, ix_10_3, ix_10_4, ix_10_5, ix_10_6, ix_10_7, ix_10_8, ix_10_9, ix_11_0, ix_11_1, ix_11_2, ix_11_3, ix_11_4, ix_11_5, ix_11_6, ix_11_7, ix_11_8, ix_11_9, ix_11_10, ix_12_0, ix_12_1, ix_12_2, ix_12_3, ix_12_4, ix_12_5, ix_12_6, ix_12_7, ix_12_8, ix_12_9, ix_12_10, ix_12_11, isT_tuple_non, isT_tuple_bl, isT_tuple_int, isT_tuple_str, isT_tuple_tup, isT_tuple_lst, isT_int_non, isT_int_bl, isT_int_int, isT_int_str, isT_int_tup, isT_int_lst, isT_bool_non, isT_bool_bl, isT_bool_int, isT_bool_str, isT_bool_tup, isT_bool_lst, isT_str_non, isT_str_bl, isT_str_int, isT_str_str, isT_str_tup, isT_str_lst, isT_list_non, isT_list_bl, isT_list_int, isT_list_str, isT_list_tup, isT_list_lst, isN_non, isN_bl, isN_int, isN_str, isN_tup, isN_lst, at_ints, sz_iff, big_iff, div_iff, mod_iff, mul_iff, mulW_iff, divW_iff, pow_iff, List.getElem?_cons_succ, List.getElem?_cons_zero, List.set_cons_zero, List.set_cons_succ, List.cons_append, List.nil_append, List.replicate, Option.map_some, Option.bind_some, decide_eq_true_eq, decide_eq_false_iff_not, Option.some.injEq, exists_eq_left', Bool.not_eq_true', Bool.not_eq_false', Bool.not_true, Bool.not_false, Int.not_lt, Int.not_le, true_and, and_true, if_true, List.length_cons, List.length_nil, List.map_cons, List.map_nil, true_imp_iff, false_imp_iff, imp_self, imp_true_iff, not_true_eq_false, not_false_eq_true, List.length_map, Bool.false_eq_true, if_false, Bool.true_eq_false, reduceCtorEq, nos, backs, Sl.keep, decide_true, decide_false, ilist_map, O.lf, List.contains_cons, List.contains_nil, Bool.and_eq_true, beq_self_eq_true, Bool.or_false, Bool.or_true, Bool.true_or, Bool.false_or, and_self, if_pos, gAt_some, ds_fz, Nat.reduceBEq, Nat.reduceEqDiff, ite_self, rangeD_len, numbered_len, Int.toNat_natCast, Nat.reduceAdd, Int.reduceMod, Int.reduceDiv, Int.reduceLT, Int.reduceLE, Int.reduceNeg, Int.reduceMul, Int.reduceAdd, Int.reduceSub, Int.reducePow, Nat.reduceAdd, Nat.reduceLT, Nat.reduceLeDiff, Int.reduceEq, true_or, or_true, Int.reduceToNat, Int.toNat_zero, Int.toNat_one, List.length_set, List.length_append, List.length_singleton, Int.reduceAbs]
    exact ⟨ws, o', rfl, hw, by omega, ho', rfl⟩
end DL
end
section
set_option Elab.async false
set_option linter.all false
set_option maxRecDepth 100000
/-! The denotations of the defs of oncecounted_k86_count_classes, printed by gen.py. -/
namespace K86
open PySem L2 DL
def δ_x_law_draw : DS := (dSeq (dIfS (dtAnd (dtBor 0 (dtB (d2 oLtA (d2 oIx (dVar 0) (dC (.int 2))) (dVar 1)))) (dtBor 0 (dtB (d2 oLtA (d2 oIx (dVar 0) (dC (.int 1))) (dA (one oLen) (daCons (d2 oIx (dVar 0) (dC (.int 0))) daNil)))))) (dSeq (dSet 2 (dBor 0 (dA (one oInt) (daCons (d2 oIx (d2 oIx (dVar 0) (dC (.int 0))) (d2 oIx (dVar 0) (dC (.int 1)))) daNil))))
  (dSeq (dPut 0 (dC (.int 1)) (dBor 0 (d2 oPlus (d2 oIx (dVar 0) (dC (.int 1))) (dC (.int 1)))))
  (dSeq (dPut 0 (dC (.int 3)) (dBor 0 (d2 oMod (dA (one oInt) (daCons (d2 oPlus (d2 oPlus (d2 oMul (d2 oIx (dVar 0) (dC (.int 3))) (dC (.int 48271))) (d2 oMod (dA (one oInt) (daCons (dVar 2) daNil)) (dC (.int 2147483647)))) (dC (.int 69621))) daNil)) (dC (.int 2147483647)))))
  (dSeq (dPut 0 (dC (.int 2)) (dC (.int 0)))
  (dIfS (dtB (d2 oGeA (dVar 2) (d2 oPow (dC (.int 10)) (dC (.int 18))))) (dPut 0 (dC (.int 2)) (dVar 2)) dNx))))) dNx)
  (dSeq (dIfS (dtBor 0 (dtB (d2 oGeA (d2 oIx (dVar 0) (dC (.int 2))) (dVar 1)))) (dSeq (dSet 3 (dBor 0 (d2 oMod (dA (one oInt) (daCons (d2 oIx (dVar 0) (dC (.int 2))) daNil)) (dVar 1))))
  (dSeq (dPut 0 (dC (.int 2)) (dBor 0 (d2 oDiv (d2 oIx (dVar 0) (dC (.int 2))) (dVar 1))))
  (dRet (dVar 3)))) dNx)
  (dSeq (dPut 0 (dC (.int 3)) (dBor 0 (d2 oMod (dA (one oInt) (daCons (d2 oPlus (d2 oMul (d2 oIx (dVar 0) (dC (.int 3))) (dC (.int 16807))) (dC (.int 11))) daNil)) (dC (.int 2147483647)))))
  (dRet (dBor 0 (d2 oMod (dA (one oInt) (daCons (d2 oDiv (d2 oIx (dVar 0) (dC (.int 3))) (dC (.int 3))) daNil)) (dVar 1)))))))
def m_x_law_draw : DOw := dFn 2 δ_x_law_draw
def δ_x_law_unlike : DS := (dSeq (dSet 1 (dC (.str "abcdefghijklmnopqrstuvwxyz")))
  (dSeq (dFor (diC (dVar 1)) (gN 2) (dFor (diC (dVar 1)) (gN 3) (dIfS (dtB (d2 (oIn true) (d2 oPlus (dVar 2) (dVar 3)) (dVar 0))) (dRet (d2 oPlus (dVar 2) (dVar 3))) dNx)))
  (dRet (dC (.str "zzz")))))
def m_x_law_unlike : List D → Option D := toP 1 (dFn 3 δ_x_law_unlike)
def δ_x_law_words : DS := (dSeq (dSet 2 (dC (.str "abcdefghijklmnopqrstuvwxyz")))
  (dSeq (dSetO 3 (dO foLst daNil))
  (dSeq (dFor (diR oR1 (daCons (dVar 1) daNil)) (gN 4) (dSeq (dSet 5 (dJoin (dC (.str "")) (dLc (diR oR1 (daCons (d2 oPlus (dC (.int 1)) (dFz (dCall (noEx m_x_law_draw) (arSlot 0 (arCons (dC (.int 8)) arNil))))) daNil)) (gN 7) dtYes (d2 oIx (dVar 2) (dFz (dCall (noEx m_x_law_draw) (arSlot 0 (arCons (dC (.int 26)) arNil))))) [7])))
  (dSeq (dIfS (dtAnd (dtB (d2 oGtA (dVar 4) (dC (.int 0)))) (dtB (d2 oEqA (dFz (dCall (noEx m_x_law_draw) (arSlot 0 (arCons (dC (.int 3)) arNil)))) (dC (.int 0))))) (dSet 5 (dBor 3 (dSl oSl (d2 oPlus (d2 oIx (dVar 3) (d1 oNeg (dC (.int 1)))) (dVar 5)) doNo (doAt (dC (.int 8)))))) dNx)
  (dSeq (dIfS (dtAnd (dtB (d2 oGtA (dVar 4) (dC (.int 0)))) (dtB (d2 oEqA (dFz (dCall (noEx m_x_law_draw) (arSlot 0 (arCons (dC (.int 6)) arNil)))) (dC (.int 0))))) (dSeq (dSet 6 (dFz (dCall (noEx m_x_law_draw) (arSlot 0 (arCons (dBor 3 (dA (one oLen) (daCons (d2 oIx (dVar 3) (dC (.int 0))) daNil))) arNil)))))
  (dSet 5 (dBor 3 (d2 oPlus (d2 oPlus (dSl oSl (d2 oIx (dVar 3) (dC (.int 0))) doNo (doAt (dVar 6))) (d2 oIx (dVar 5) (dC (.int 0)))) (dSl oSl (d2 oIx (dVar 3) (dC (.int 0))) (doAt (d2 oPlus (dVar 6) (dC (.int 1)))) doNo))))) dNx)
  (dSeq (dIfS (dtBor 3 (dtB (d2 (oIn false) (dVar 5) (dVar 3)))) (dSet 5 (dBor 3 (dA m_x_law_unlike (daCons (dVar 3) daNil)))) dNx)
  (dApp 3 (dVar 5)))))))
  (dRetO 3))))
def m_x_law_words : DOw := dFn 6 δ_x_law_words
def δ_x_law_items : DS := (dSeq (dSet 2 (d2 oIx (dA oTupOf (daCons (dC (.int 1)) (daCons (dC (.int 2)) (daCons (dFz (dCall (noEx m_x_law_draw) (arSlot 0 (arCons (d2 oPlus (dVar 1) (dC (.int 1))) arNil)))) (daCons (dVar 1) daNil))))) (dFz (dCall (noEx m_x_law_draw) (arSlot 0 (arCons (dC (.int 4)) arNil))))))
  (dSeq (dSet 3 (dFz (dCall (noEx m_x_law_draw) (arSlot 0 (arCons (dC (.int 5)) arNil)))))
  (dSeq (dSet 4 (dFz (dCall (noEx m_x_law_draw) (arSlot 0 (arCons (dC (.int 100000)) arNil)))))
  (dSeq (dSetO 5 (dLcO (diR oR1 (daCons (dVar 2) daNil)) (gN 7) dtYes (d2 oIx (dA oTupOf (daCons (dC (.int 0)) (daCons (dVar 4) (daCons (dFz (dCall (noEx m_x_law_draw) (arSlot 0 (arCons (dC (.int 4)) arNil)))) (daCons (dFz (dCall (noEx m_x_law_draw) (arSlot 0 (arCons (dC (.int 100000)) arNil)))) (daCons (dFz (dCall (noEx m_x_law_draw) (arSlot 0 (arCons (dC (.int 60)) arNil)))) daNil)))))) (dVar 3)) [7]))
  (dSeq (dIfS (dtAnd (dtB (d2 oEqA (dVar 3) (dC (.int 4)))) (dtB (d2 oGtA (dVar 2) (dC (.int 0))))) (dPut 5 (dFz (dCall (noEx m_x_law_draw) (arSlot 0 (arCons (dVar 2) arNil)))) (dVar 4)) dNx)
  (dSeq (dSet 6 (dFz (dCall (noEx m_x_law_words) (arSlot 0 (arCons (dVar 2) arNil)))))
  (dFrz 5 (dRet (dLc (diR oR1 (daCons (dVar 2) daNil)) (gN 7) dtYes (dA oTupOf (daCons (d2 oIx (dVar 6) (dVar 7)) (daCons (d2 oIx (dVar 5) (dVar 7)) daNil))) [7])))))))))
def m_x_law_items : DOw := dFn 6 δ_x_law_items
def δ_x_law_falling : DS := (dSeq (dSet 1 (dA (one (oSorted false)) (daCons (dLc (diS (dVar 0)) (gTp 2 (gsCons (gN 3) (gsCons (gN 2) gsNil))) dtYes (dA oTupOf (daCons (d2 oSub (dC (.int 0)) (dVar 2)) (daCons (dVar 3) daNil))) [3, 2]) daNil)))
  (dRet (dLc (diS (dVar 1)) (gTp 2 (gsCons (gN 2) (gsCons (gN 3) gsNil))) dtYes (dA oTupOf (daCons (dVar 3) (daCons (d2 oSub (dC (.int 0)) (dVar 2)) daNil))) [2, 3])))
def m_x_law_falling : List D → Option D := toP 1 (dFn 3 δ_x_law_falling)
def δ_x_law_percent : DS := (dSeq (dSet 2 (dFz (dCall (noEx m_x_law_draw) (arSlot 0 (arCons (dC (.int 5)) arNil)))))
  (dSeq (dSet 3 (dA (one oSum) (daCons (dLc (diS (dVar 1)) (gTp 2 (gsCons (gN 6) (gsCons (gN 7) gsNil))) dtYes (dVar 7) [6, 7]) daNil)))
  (dSeq (dIfS (dtAnd (dtB (d2 oLtA (dVar 2) (dC (.int 2)))) (dtB (d2 oGtA (dVar 3) (dC (.int 0))))) (dSeq (dSet 4 (dA m_x_law_falling (daCons (dVar 1) daNil)))
  (dSeq (dSet 5 (dA (one oSum) (daCons (dLc (diS (dSl oSl (dVar 4) doNo (doAt (d2 oPlus (dC (.int 1)) (dFz (dCall (noEx m_x_law_draw) (arSlot 0 (arCons (dA (one oLen) (daCons (dVar 4) daNil)) arNil)))))))) (gTp 2 (gsCons (gN 6) (gsCons (gN 7) gsNil))) dtYes (dVar 7) [6, 7]) daNil)))
  (dRet (dA (oMax2) (daCons (dC (.int 0)) (daCons (d2 oSub (d2 oDiv (d2 oMul (dC (.int 100)) (dVar 5)) (dVar 3)) (d2 oMul (dVar 2) (dFz (dCall (noEx m_x_law_draw) (arSlot 0 (arCons (dC (.int 2)) arNil)))))) daNil)))))) dNx)
  (dRet (d2 oIx (dA oTupOf (daCons (dC (.int 0)) (daCons (dC (.int 100)) (daCons (dFz (dCall (noEx m_x_law_draw) (arSlot 0 (arCons (dC (.int 101)) arNil)))) (daCons (dFz (dCall (noEx m_x_law_draw) (arSlot 0 (arCons (dC (.int 101)) arNil)))) (daCons (d2 oPlus (dC (.int 50)) (dFz (dCall (noEx m_x_law_draw) (arSlot 0 (arCons (dC (.int 51)) arNil))))) daNil)))))) (dVar 2))))))
def m_x_law_percent : DOw := dFn 6 δ_x_law_percent
def δ_by_value : DS := (dRet (dLc (diS (dA (one (oSorted false)) (daCons (dLc (diS (dVar 0)) (gTp 2 (gsCons (gN 2) (gsCons (gN 1) gsNil))) dtYes (dA oTupOf (daCons (d2 oSub (dC (.int 0)) (dVar 1)) (daCons (dVar 2) daNil))) [2, 1]) daNil))) (gTp 2 (gsCons (gN 1) (gsCons (gN 2) gsNil))) dtYes (dA oTupOf (daCons (dVar 2) (daCons (d2 oSub (dC (.int 0)) (dVar 1)) daNil))) [1, 2]))
def m_by_value : List D → Option D := toP 1 (dFn 2 δ_by_value)
def δ_beginning : DS := (dSeq (dSet 2 (dA (one oSum) (daCons (dLc (diS (dVar 0)) (gTp 2 (gsCons (gN 5) (gsCons (gN 6) gsNil))) dtYes (dVar 6) [5, 6]) daNil)))
  (dSeq (dSet 3 (dC (.int 0)))
  (dSeq (dFor (diR oR1 (daCons (d2 oPlus (dA (one oLen) (daCons (dVar 0) daNil)) (dC (.int 1))) daNil)) (gN 4) (dSeq (dIfS (dtB (d2 oGeA (d2 oMul (dVar 3) (dC (.int 100))) (d2 oMul (dVar 2) (dVar 1)))) (dRet (dVar 4)) dNx)
  (dAug 3 oAdd (d2 oIx (d2 oIx (dVar 0) (dVar 4)) (dC (.int 1))))))
  (dRet (dA (one oLen) (daCons (dVar 0) daNil))))))
def m_beginning : List D → Option D := toP 2 (dFn 5 δ_beginning)
def δ_classes : DS := (dSeq (dSet 3 (dA m_by_value (daCons (dVar 0) daNil)))
  (dSeq (dSet 4 (dA oTupOf (daCons (dA m_beginning (daCons (dVar 3) (daCons (dVar 1) daNil))) (daCons (dA m_beginning (daCons (dVar 3) (daCons (dVar 2) daNil))) daNil))))
  (dSeq (dSetO 5 (dO foLst daNil))
  (dSeq (dFor (diE (daCons (dVar 3) daNil)) (gTp 2 (gsCons (gN 6) (gsCons (gTp 2 (gsCons (gN 7) (gsCons (gN 8) gsNil))) gsNil))) (dApp 5 (dA oTupOf (daCons (dVar 7) (daCons (d2 oIx (dC (.tup [.str "a", .str "b", .str "c"])) (dA (one oLen) (daCons (dLc (diS (dVar 4)) (gN 9) (dtB (d2 oLeA (dVar 9) (dVar 6))) (dVar 9) [9]) daNil))) daNil)))))
  (dFrz 5 (dRet (dA (one oTuple) (daCons (dA (one (oSorted false)) (daCons (dVar 5) daNil)) daNil))))))))
def m_classes : List D → Option D := toP 3 (dFn 7 δ_classes)
def δ_x_law_same (g : List D → Option D) : DS := (dSeq (dIfS (dtB (d1 (oIsT "tuple") (dVar 0))) (dSeq (dIfS (dtOr (dtNot (dtB (d1 (oIsT "tuple") (dVar 1)))) (dtB (d2 oNeA (dA (one oLen) (daCons (dVar 1) daNil)) (dA (one oLen) (daCons (dVar 0) daNil))))) (dRet (dC (.bl false))) dNx)
  (dSeq (dFor (diR oR1 (daCons (dA (one oLen) (daCons (dVar 0) daNil)) daNil)) (gN 2) (dIfS (dtNot (dtB (dA g (daCons (d2 oIx (dVar 0) (dVar 2)) (daCons (d2 oIx (dVar 1) (dVar 2)) daNil))))) (dRet (dC (.bl false))) dNx))
  (dRet (dC (.bl true))))) dNx)
  (dSeq (dIfS (dtB (d2 oIsN (dVar 0) (dC .non))) (dRet (d2 oIsN (dVar 1) (dC .non))) dNx)
  (dSeq (dIfS (dtB (d1 (oIsT "bool") (dVar 0))) (dRet (dAnd (d1 (oIsT "bool") (dVar 1)) (d2 oEqA (dVar 1) (dVar 0)))) dNx)
  (dSeq (dIfS (dtB (d1 (oIsT "int") (dVar 0))) (dRet (dAnd (d1 (oIsT "int") (dVar 1)) (dAnd (d1 oNot (d1 (oIsT "bool") (dVar 1))) (d2 oEqA (dVar 1) (dVar 0))))) dNx)
  (dRet (dAnd (d1 (oIsT "str") (dVar 1)) (d2 oEqA (dVar 1) (dVar 0))))))))
def r_x_law_same : Nat → List D → Option D
  | 0 => fun _ => none
  | n + 1 => toP 2 (dFn 1 (δ_x_law_same (r_x_law_same n)))
def m_x_law_same : List D → Option D := r_x_law_same 8
def δ_x_law_shortest : DS := (dSeq (dSet 2 (dA (one oSum) (daCons (dLc (diS (dVar 0)) (gTp 2 (gsCons (gN 5) (gsCons (gN 6) gsNil))) dtYes (dVar 6) [5, 6]) daNil)))
  (dSeq (dSet 3 (dC (.int 0)))
  (dSeq (dFor (diR oR1 (daCons (dA (one oLen) (daCons (dVar 0) daNil)) daNil)) (gN 4) (dSeq (dIfS (dtB (d2 oGeA (d2 oMul (dC (.int 100)) (dVar 3)) (d2 oMul (dVar 1) (dVar 2)))) (dRet (dVar 4)) dNx)
  (dSet 3 (d2 oPlus (dVar 3) (d2 oIx (d2 oIx (dVar 0) (dVar 4)) (dC (.int 1)))))))
  (dRet (dA (one oLen) (daCons (dVar 0) daNil))))))
def m_x_law_shortest : List D → Option D := toP 2 (dFn 5 δ_x_law_shortest)
def δ_x_law_classes : DS := (dSeq (dSet 3 (dA m_x_law_falling (daCons (dVar 0) daNil)))
  (dSeq (dSet 4 (dA m_x_law_shortest (daCons (dVar 3) (daCons (dVar 1) daNil))))
  (dSeq (dSet 5 (dA m_x_law_shortest (daCons (dVar 3) (daCons (dVar 2) daNil))))
  (dSeq (dSetO 6 (dO foLst daNil))
  (dSeq (dFor (diR oR1 (daCons (dA (one oLen) (daCons (dVar 3) daNil)) daNil)) (gN 7) (dIfS (dtB (d2 oLtA (dVar 7) (dVar 4))) (dApp 6 (dA oTupOf (daCons (d2 oIx (d2 oIx (dVar 3) (dVar 7)) (dC (.int 0))) (daCons (dC (.str "a")) daNil)))) (dIfS (dtB (d2 oLtA (dVar 7) (dVar 5))) (dApp 6 (dA oTupOf (daCons (d2 oIx (d2 oIx (dVar 3) (dVar 7)) (dC (.int 0))) (daCons (dC (.str "b")) daNil)))) (dApp 6 (dA oTupOf (daCons (d2 oIx (d2 oIx (dVar 3) (dVar 7)) (dC (.int 0))) (daCons (dC (.str "c")) daNil)))))))
  (dFrz 6 (dRet (dA (one oTuple) (daCons (dA (one (oSorted false)) (daCons (dVar 6) daNil)) daNil)))))))))
def m_x_law_classes : List D → Option D := toP 3 (dFn 5 δ_x_law_classes)
def δ_x_law_right : DS := (dRet (dAnd (dA m_x_law_same (daCons (dA m_x_law_classes (daCons (dVar 1) (daCons (dVar 2) (daCons (dVar 3) daNil)))) (daCons (dA m_classes (daCons (dVar 0) (daCons (dVar 2) (daCons (dVar 3) daNil)))) daNil))) (d2 oEqA (dA (one oList) (daCons (dVar 0) daNil)) (dVar 1))))
def m_x_law_right : List D → Option D := toP 4 (dFn 0 δ_x_law_right)
def δ_law : DS := (dSeq (dSetO 1 (dO foLst (daCons (dA (one oList) (daCons (dVar 0) daNil)) (daCons (dC (.int 0)) (daCons (dC (.int 0)) (daCons (dC (.int 7)) daNil))))))
  (dSeq (dFor (diR oR1 (daCons (dC (.int 2)) daNil)) (gN 2) (dSeq (dSet 3 (dFz (dCall (noEx m_x_law_items) (arSlot 1 (arCons (dC (.int 60)) arNil)))))
  (dSeq (dSet 4 (dFz (dCall (noEx m_x_law_percent) (arSlot 1 (arCons (dVar 3) arNil)))))
  (dSeq (dSet 5 (dFz (dCall (noEx m_x_law_percent) (arSlot 1 (arCons (dVar 3) arNil)))))
  (dSeq (dSet 6 (dA (oMin2) (daCons (dVar 4) (daCons (dVar 5) daNil))))
  (dSeq (dSet 7 (dA (oMax2) (daCons (dVar 4) (daCons (dVar 5) daNil))))
  (dSeq (dIfS (dtB (d2 oEqA (dFz (dCall (noEx m_x_law_draw) (arSlot 1 (arCons (dC (.int 5)) arNil)))) (dC (.int 0)))) (dSet 7 (dVar 6)) dNx)
  (dSeq (dSetO 8 (dO foList (daCons (dVar 3) daNil)))
  (dSeq (dIfS (dtNot (dtB (dBor 8 (dA m_x_law_right (daCons (dVar 8) (daCons (dVar 3) (daCons (dVar 6) (daCons (dVar 7) daNil)))))))) (dRet (dC (.bl false))) dNx)
  (dSeq (dSet 9 (dLc (diR oR1 (daCons (dA (one oLen) (daCons (dVar 3) daNil)) daNil)) (gN 12) dtYes (d2 oIx (dVar 3) (d2 oSub (d2 oSub (dA (one oLen) (daCons (dVar 3) daNil)) (dC (.int 1))) (dVar 12))) [12]))
  (dSeq (dIfS (dtNot (dtB (dA m_x_law_right (daCons (dA (one oTuple) (daCons (dVar 9) daNil)) (daCons (dVar 9) (daCons (dVar 6) (daCons (dVar 7) daNil))))))) (dRet (dC (.bl false))) dNx)
  (dIfS (dtTr (dVar 3)) (dSeq (dSet 10 (dFz (dCall (noEx m_x_law_draw) (arSlot 1 (arCons (dA (one oLen) (daCons (dVar 3) daNil)) arNil)))))
  (dSeq (dSetO 11 (dO foList (daCons (dVar 3) daNil)))
  (dSeq (dPut 11 (dVar 10) (dA oTupOf (daCons (d2 oIx (d2 oIx (dVar 3) (dVar 10)) (dC (.int 0))) (daCons (d2 oMod (dA (one oInt) (daCons (d2 oPlus (d2 oMul (d2 oIx (d2 oIx (dVar 3) (dVar 10)) (dC (.int 1))) (dC (.int 3))) (dFz (dCall (noEx m_x_law_draw) (arSlot 1 (arCons (dC (.int 99)) arNil))))) daNil)) (dC (.int 100000))) daNil))))
  (dSeq (dPut 8 (dVar 10) (dBor 11 (d2 oIx (dVar 11) (dVar 10))))
  (dIfS (dtNot (dtB (dBor 8 (dBor 11 (dA m_x_law_right (daCons (dVar 8) (daCons (dVar 11) (daCons (dVar 6) (daCons (dVar 7) daNil))))))))) (dRet (dC (.bl false))) dNx))))) dNx))))))))))))
  (dRet (dC (.bl true)))))
def m_law : List D → Option D := toP 1 (dFn 12 δ_law)
end K86
end
section
set_option Elab.async false
set_option linter.all false
set_option maxRecDepth 100000
namespace K86
open PySem L2 DL
theorem draw_eq : m_x_law_draw = mDraw := rfl
theorem words_eq : m_x_law_words = mWords := by unfold mWords; rfl
theorem same_eq : ∀ n, r_x_law_same n = rSame n
  | 0 => rfl
  | n + 1 => by
    unfold r_x_law_same rSame
    rw [same_eq n]
    rfl
/-! items -/
def itD (p : Str × Int) : D := .tup [.str p.1, .int p.2]
def keyD (p : Int × Str) : D := .tup [.int p.1, .str p.2]
def clsD (p : Str × Str) : D := .tup [.str p.1, .str p.2]
def wordsOk (ps : List Str) : Prop := ∀ s ∈ ps, PyData.strOk s = true
theorem c_key {qs : List (Int × Str)} (h : wordsOk (qs.map (·.2))) : (alikes (qs.map keyD) && sortable (qs.map keyD) && depths (qs.map keyD)) = true := by
  simp only [Bool.and_eq_true]
  refine ⟨⟨?_, ?_⟩, ?_⟩
  · simp only [alikes, List.all_eq_true]
    intro x hx y hy
    obtain ⟨p, _, rfl⟩ := List.mem_map.mp hx
    obtain ⟨q, _, rfl⟩ := List.mem_map.mp hy
    simp only [keyD, D.py, D.pys, PySem.W.alike, PySem.W.alikeAll, Bool.and_true]
  · simp [sortable, keyD, D.tup1]
  · simp only [depths, List.all_eq_true, Bool.and_eq_true, decide_eq_true_eq]
    intro x hx
    obtain ⟨q, hq, rfl⟩ := List.mem_map.mp hx
    have := h q.2 (List.mem_map_of_mem hq)
    simp [keyD, D.py, D.pys, PyData.canLay0, PyData.canLayAll0, PyData.depth, PyData.depthAll, this]
theorem c_cls {qs : List (Str × Str)} (h : wordsOk (qs.map (·.1))) (h2 : wordsOk (qs.map (·.2))) : (alikes (qs.map clsD) && sortable (qs.map clsD) && depths (qs.map clsD)) = true := by
  simp only [Bool.and_eq_true]
  refine ⟨⟨?_, ?_⟩, ?_⟩
  · simp only [alikes, List.all_eq_true]
    intro x hx y hy
    obtain ⟨p, _, rfl⟩ := List.mem_map.mp hx
    obtain ⟨q, _, rfl⟩ := List.mem_map.mp hy
    simp only [clsD, D.py, D.pys, PySem.W.alike, PySem.W.alikeAll, Bool.and_true]
  · simp [sortable, clsD, D.tup1]
  · simp only [depths, List.all_eq_true, Bool.and_eq_true, decide_eq_true_eq]
    intro x hx
    obtain ⟨q, hq, rfl⟩ := List.mem_map.mp hx
    have h1 := h q.1 (List.mem_map_of_mem hq)
    have h3 := h2 q.2 (List.mem_map_of_mem hq)
    simp [clsD, D.py, D.pys, PyData.canLay0, PyData.canLayAll0, PyData.depth, PyData.depthAll, h1, h3]
/-- the sorted keys, as pairs -/
theorem sort_key (qs : List (Int × Str)) : ∃ rs : List (Int × Str), sortD false (qs.map keyD) = rs.map keyD ∧ rs.Perm qs :=
  ⟨qs.mergeSort (PySem.W.dataLe false fun q => (keyD q).py), (List.map_mergeSort (f := keyD) (r := PySem.W.dataLe false fun q => (keyD q).py) (s := PySem.W.dataLe false D.py) (fun _ _ _ _ => rfl)).symm, List.mergeSort_perm _ _⟩

def same2 (x : D) (xs : List D) : Prop := x = .lst xs ∨ x = .tup xs
def keyOf (p : Str × Int) : Int × Str := (0 - p.2, p.1)
def backOf (q : Int × Str) : Str × Int := (q.2, 0 - q.1)
theorem take_map_succ {α β : Type} {xs : List α} {f : α → β} {k : Nat} (h : k < xs.length) : (xs.take (k + 1)).map f = (xs.take k).map f ++ [f xs[k]] := by
  rw [List.take_add_one, List.getElem?_eq_getElem h, List.map_append]; rfl
theorem by_value_ok {ps : List (Str × Int)} {x : D} (hx : same2 x (ps.map itD)) (hl : ps.length ≤ 1000000) (hw : wordsOk (ps.map (·.1))) {rs : List (Int × Str)} (hr : sortD false ((ps.map keyOf).map keyD) = rs.map keyD) (hp : rs.length = ps.length) : m_by_value [x] = some (.lst ((rs.map backOf).map itD)) := by
  have hs : oSorted false (.lst ((ps.map keyOf).map keyD)) = some (.lst (rs.map keyD)) := by
    simp only [oSorted, c_key (qs := ps.map keyOf) (by rw [List.map_map]; exact hw), if_true, hr]
  refine w_toP rfl ?_
  unfold δ_by_value
  rcases hx with rfl | rfl
  all_goals
    simp only [w_some, w_ofIf, w_ofMap, vAt_fz, w_var, w_C, k1_, w_1, k2b_, k2_, w_2, kA_, w_A, kMb_, kM_, w_M, w_aNil, kaCb_, kaC_, w_aCons, w_oNo, koAt_i, w_oAt, kSlc_, kSlb_, kSl_, w_Sl, ktB_, w_tB, bl_bl, ktT_, w_tTr, ktAnd_, w_tAnd, ktOr_, w_tOr, ktNot_, w_tNot, w_tYes, kIf_, w_If, kAnd_b, kOr_b, w_And, w_Or, ktL_, kbL_, kbF_, lentT_o, lentT_f, lentB_o, lentB_f, w_tBor, w_Bor, flat_int, flat_bl, flat_str, flat_non, kS_nx, kS_bk, kS_ct, kS_rt, w_Seq, kJ_s, w_J, w_Nx, w_Bk, w_Ct, kSet_, w_Set, kAugb_, kAugc_, kAug_, w_Aug, kParb_, kPar_, w_Par, gAt_some, kAsg_, w_Asg, kDrop_, w_Drop, kRet_, w_Ret, w_RetN, kIfS_, w_IfS, kApp_, kApp2_, appAt_, w_App, kPut_, putAt_, kPut2_, kPut3_, w_Put, w_Frz, frz_eq, frz1_ow, frz1_fz, kSetO_, w_SetO, kUp_, w_Up, kO_, w_O, dAt_, kFz_, w_Fz, rAt_ow, kRetO_, w_RetO, fEnd_rt, fEnd_nx, w_Fn, w_noEx, w_arNil, karb_, kar_, w_arCons, kasb_, kas_, w_arSlot, callAt_, kBack_, kCall_, w_Call, pull_nil, pull_fz, pull_sl, pull1_ow, push_nil, push_fz, push_sl, push1_ow, outs_nil, outs_f, outs_o, gN_ap, gTp_ap, gsNil_ap, gsCons_ap, kFor_, w_For, kiR_, w_iR, kiS_l, kiS_t, kiE_l, kiE_t, kiC_s, w_iC, w_iS, w_iE, kRnd_nx, kRnd_ct, kRnd_bk, kRnd_rt, kLcB_, kLcBO_, kLc_, kLcO_, w_Lc, w_LcO, kLcT_, kLcE_, v_add, v_sub, v_mul, v_div, v_mod, v_pow, v_ltA, v_leA, v_gtA, v_geA, v_eqA, v_neA, v_eqAs, v_eqAb, v_plusI, v_max2i, v_min2i, v_one, v_lenL, v_lenT, v_intI, v_tupL, v_tupT, v_lstL, v_lstT, v_sumL, v_sumT, v_maxL, v_minL, u_isN, u_notN, v_isT, v_not, u_neg, v_slL, v_slT, v_ixL, v_ixT, v_r1, v_r2, v_mulW, v_divW, v_gcdI, v_absI, v_sumR, v_foLstT, v_foLstL, v_foLst, v_tupOf, v_lstOf, o_fz, o_ol, o_nil, o_cons, at0, at1, at2, at3, at4, at5, at6, at7, ix_1_0, ix_2_0, ix_2_1, ix_3_0, ix_3_1, ix_3_2, ix_4_0, ix_4_1, ix_4_2, ix_4_3, ix_5_0, ix_5_1, ix_5_2, ix_5_3, ix_5_4, ix_6_0, ix_6_1, ix_6_2, ix_6_3, ix_6_4, ix_6_5, ix_7_0, ix_7_1, ix_7_2, ix_7_3, ix_7_4, ix_7_5, ix_7_6, ix_8_0, ix_8_1, ix_8_2, ix_8_3, ix_8_4, ix_8_5, ix_8_6, ix_8_7, ix_9_0, ix_9_1, ix_9_2, ix_9_3, ix_9_4, ix_9_5, ix_9_6, ix_9_7, ix_9_8, ix_10_0, ix_10_1, ix_10_2, ix_10_3, ix_10_4, ix_10_5, ix_10_6, ix_10_7, ix_10_8, ix_10_9, ix_11_0, ix_11_1, ix_11_2, ix_11_3, ix_11_4, ix_11_5, ix_11_6, ix_11_7, ix_11_8, ix_11_9, ix_11_10, ix_12_0, ix_12_1, ix_12_2, ix_12_3, ix_12_4, ix_12_5, ix_12_6, ix_12_7, ix_12_8, ix_12_9, ix_12_10, ix_12_11, isT_tuple_non, isT_tuple_bl, isT_tuple_int, isT_tuple_str, isT_tuple_tup, isT_tuple_lst, isT_int_non, isT_int_bl, isT_int_int, isT_int_str, isT_int_tup, isT_int_lst, isT_bool_non, isT_bool_bl, isT_bool_int, isT_bool_str, isT_bool_tup, isT_bool_lst, isT_str_non, isT_str_bl, isT_str_int, isT_str_str, isT_str_tup, isT_str_lst, isT_list_non, isT_list_bl, isT_list_int, isT_list_str, isT_list_tup, isT_list_lst, isN_non, isN_bl, isN_int, isN_str, isN_tup, isN_lst, at_ints, sz_iff, big_iff, div_iff, mod_iff, mul_iff, mulW_iff, divW_iff, pow_iff, List.getElem?_cons_succ, List.getElem?_cons_zero, List.set_cons_zero, List.set_cons_succ, List.cons_append, List.nil_append, List.replicate, Option.map_some, Option.bind_some, decide_eq_true_eq, decide_eq_false_iff_not, Option.some.injEq, exists_eq_left', Bool.not_eq_true', Bool.not_eq_false', Bool.not_true, Bool.not_false, Int.not_lt, Int.not_le, true_and, and_true, if_true, List.length_cons, List.length_nil, List.map_cons, List.map_nil, true_imp_iff, false_imp_iff, imp_self, imp_true_iff, not_true_eq_false, not_false_eq_true, List.length_map, Bool.false_eq_true, if_false, Bool.true_eq_false, reduceCtorEq, nos, backs, Sl.keep, decide_true, decide_false, ilist_map, O.lf, List.contains_cons, List.contains_nil, Bool.and_eq_true, beq_self_eq_true, Bool.or_false, Bool.or_true, Bool.true_or, Bool.false_or, and_self, if_pos, gAt_some, ds_fz, Nat.reduceBEq, Nat.reduceEqDiff, ite_self, rangeD_len, numbered_len, Int.toNat_natCast, Nat.reduceAdd, Int.reduceMod, Int.reduceDiv, Int.reduceLT, Int.reduceLE, Int.reduceNeg, Int.reduceMul, Int.reduceAdd, Int.reduceSub, Int.reducePow, Nat.reduceAdd, Nat.reduceLT, Nat.reduceLeDiff, Int.reduceEq, true_or, or_true, Int.reduceToNat, Int.toNat_zero, Int.toNat_one, List.length_set, List.length_append, List.length_singleton, Int.reduceAbs]
    refine ⟨by omega, ?_⟩
    refine w_lcK (fun k ys Γ => ys = (((ps.take k).map keyOf).map keyD) ∧ Γ = [Sl.fz _, .no, .no]) ⟨rfl, rfl⟩ ?_ ?_
    · rintro k d ys Γ hd ⟨rfl, rfl⟩
      have hk : k < ps.length := by simpa using (List.getElem?_eq_some_iff.mp hd).1
      rw [List.getElem?_map, List.getElem?_eq_getElem hk] at hd
      cases hd
      simp only [w_some, w_ofIf, w_ofMap, vAt_fz, w_var, w_C, k1_, w_1, k2b_, k2_, w_2, kA_, w_A, kMb_, kM_, w_M, w_aNil, kaCb_, kaC_, w_aCons, w_oNo, koAt_i, w_oAt, kSlc_, kSlb_, kSl_, w_Sl, ktB_, w_tB, bl_bl, ktT_, w_tTr, ktAnd_, w_tAnd, ktOr_, w_tOr, ktNot_, w_tNot, w_tYes, kIf_, w_If, kAnd_b, kOr_b, w_And, w_Or, ktL_, kbL_, kbF_, lentT_o, lentT_f, lentB_o, lentB_f, w_tBor, w_Bor, flat_int, flat_bl, flat_str, flat_non, kS_nx, kS_bk, kS_ct, kS_rt, w_Seq, kJ_s, w_J, w_Nx, w_Bk, w_Ct, kSet_, w_Set, kAugb_, kAugc_, kAug_, w_Aug, kParb_, kPar_, w_Par, gAt_some, kAsg_, w_Asg, kDrop_, w_Drop, kRet_, w_Ret, w_RetN, kIfS_, w_IfS, kApp_, kApp2_, appAt_, w_App, kPut_, putAt_, kPut2_, kPut3_, w_Put, w_Frz, frz_eq, frz1_ow, frz1_fz, kSetO_, w_SetO, kUp_, w_Up, kO_, w_O, dAt_, kFz_, w_Fz, rAt_ow, kRetO_, w_RetO, fEnd_rt, fEnd_nx, w_Fn, w_noEx, w_arNil, karb_, kar_, w_arCons, kasb_, kas_, w_arSlot, callAt_, kBack_, kCall_, w_Call, pull_nil, pull_fz, pull_sl, pull1_ow, push_nil, push_fz, push_sl, push1_ow, outs_nil, outs_f, outs_o, gN_ap, gTp_ap, gsNil_ap, gsCons_ap, kFor_, w_For, kiR_, w_iR, kiS_l, kiS_t, kiE_l, kiE_t, kiC_s, w_iC, w_iS, w_iE, kRnd_nx, kRnd_ct, kRnd_bk, kRnd_rt, kLcB_, kLcBO_, kLc_, kLcO_, w_Lc, w_LcO, kLcT_, kLcE_, v_add, v_sub, v_mul, v_div, v_mod, v_pow, v_ltA, v_leA, v_gtA, v_geA, v_eqA, v_neA, v_eqAs, v_eqAb, v_plusI, v_max2i, v_min2i, v_one, v_lenL, v_lenT, v_intI, v_tupL, v_tupT, v_lstL, v_lstT, v_sumL, v_sumT, v_maxL, v_minL, u_isN, u_notN, v_isT, v_not, u_neg, v_slL, v_slT, v_ixL, v_ixT, v_r1, v_r2, v_mulW, v_divW, v_gcdI, v_absI, v_sumR, v_foLstT, v_foLstL, v_foLst, v_tupOf, v_lstOf, o_fz, o_ol, o_nil, o_cons, at0, at1, at2, at3, at4, at5, at6, at7, ix_1_0, ix_2_0, ix_2_1, ix_3_0, ix_3_1, ix_3_2, ix_4_0, ix_4_1, ix_4_2, ix_4_3, ix_5_0, ix_5_1, ix_5_2, ix_5_3, ix_5_4, ix_6_0, ix_6_1, ix_6_2, ix_6_3, ix_6_4, ix_6_5, ix_7_0, ix_7_1, ix_7_2, ix_7_3, ix_7_4, ix_7_5, ix_7_6, ix_8_0, ix_8_1, ix_8_2, ix_8_3, ix_8_4, ix_8_5, ix_8_6, ix_8_7, ix_9_0, ix_9_1, ix_9_2, ix_9_3, ix_9_4, ix_9_5, ix_9_6, ix_9_7, ix_9_8, ix_10_0, ix_10_1, ix_10_2, ix_10_3, ix_10_4, ix_10_5, ix_10_6, ix_10_7, ix_10_8, ix_10_9, ix_11_0, ix_11_1, ix_11_2, ix_11_3, ix_11_4, ix_11_5, ix_11_6, ix_11_7, ix_11_8, ix_11_9, ix_11_10, ix_12_0, ix_12_1, ix_12_2, ix_12_3, ix_12_4, ix_12_5, ix_12_6, ix_12_7, ix_12_8, ix_12_9, ix_12_10, ix_12_11, isT_tuple_non, isT_tuple_bl, isT_tuple_int, isT_tuple_str, isT_tuple_tup, isT_tuple_lst, isT_int_non, isT_int_bl, isT_int_int, isT_int_str, isT_int_tup, isT_int_lst, isT_bool_non, isT_bool_bl, isT_bool_int, isT_bool_str, isT_bool_tup, isT_bool_lst, isT_str_non, isT_str_bl, isT_str_int, isT_str_str, isT_str_tup, isT_str_lst, isT_list_non, isT_list_bl, isT_list_int, isT_list_str, isT_list_tup, isT_list_lst, isN_non, isN_bl, isN_int, isN_str, isN_tup, isN_lst, at_ints, sz_iff, big_iff, div_iff, mod_iff, mul_iff, mulW_iff, divW_iff, pow_iff, List.getElem?_cons_succ, List.getElem?_cons_zero, List.set_cons_zero, List.set_cons_succ, List.cons_append, List.nil_append, List.replicate, Option.map_some, Option.bind_some, decide_eq_true_eq, decide_eq_false_iff_not, Option.some.injEq, exists_eq_left', Bool.not_eq_true', Bool.not_eq_false', Bool.not_true, Bool.not_false, Int.not_lt, Int.not_le, true_and, and_true, if_true, List.length_cons, List.length_nil, List.map_cons, List.map_nil, true_imp_iff, false_imp_iff, imp_self, imp_true_iff, not_true_eq_false, not_false_eq_true, List.length_map, Bool.false_eq_true, if_false, Bool.true_eq_false, reduceCtorEq, nos, backs, Sl.keep, decide_true, decide_false, ilist_map, O.lf, List.contains_cons, List.contains_nil, Bool.and_eq_true, beq_self_eq_true, Bool.or_false, Bool.or_true, Bool.true_or, Bool.false_or, and_self, if_pos, gAt_some, ds_fz, Nat.reduceBEq, Nat.reduceEqDiff, ite_self, rangeD_len, numbered_len, Int.toNat_natCast, Nat.reduceAdd, Int.reduceMod, Int.reduceDiv, Int.reduceLT, Int.reduceLE, Int.reduceNeg, Int.reduceMul, Int.reduceAdd, Int.reduceSub, Int.reducePow, Nat.reduceAdd, Nat.reduceLT, Nat.reduceLeDiff, Int.reduceEq, true_or, or_true, Int.reduceToNat, Int.toNat_zero, Int.toNat_one, List.length_set, List.length_append, List.length_singleton, Int.reduceAbs, itD, take_map_succ hk, List.map_append, keyOf, keyD]
    · rintro ys Γ ⟨rfl, rfl⟩
      rw [List.length_map, List.take_length]
      simp only [w_some, w_ofIf, w_ofMap, vAt_fz, w_var, w_C, k1_, w_1, k2b_, k2_, w_2, kA_, w_A, kMb_, kM_, w_M, w_aNil, kaCb_, kaC_, w_aCons, w_oNo, koAt_i, w_oAt, kSlc_, kSlb_, kSl_, w_Sl, ktB_, w_tB, bl_bl, ktT_, w_tTr, ktAnd_, w_tAnd, ktOr_, w_tOr, ktNot_, w_tNot, w_tYes, kIf_, w_If, kAnd_b, kOr_b, w_And, w_Or, ktL_, kbL_, kbF_, lentT_o, lentT_f, lentB_o, lentB_f, w_tBor, w_Bor, flat_int, flat_bl, flat_str, flat_non, kS_nx, kS_bk, kS_ct, kS_rt, w_Seq, kJ_s, w_J, w_Nx, w_Bk, w_Ct, kSet_, w_Set, kAugb_, kAugc_, kAug_, w_Aug, kParb_, kPar_, w_Par, gAt_some, kAsg_, w_Asg, kDrop_, w_Drop, kRet_, w_Ret, w_RetN, kIfS_, w_IfS, kApp_, kApp2_, appAt_, w_App, kPut_, putAt_, kPut2_, kPut3_, w_Put, w_Frz, frz_eq, frz1_ow, frz1_fz, kSetO_, w_SetO, kUp_, w_Up, kO_, w_O, dAt_, kFz_, w_Fz, rAt_ow, kRetO_, w_RetO, fEnd_rt, fEnd_nx, w_Fn, w_noEx, w_arNil, karb_, kar_, w_arCons, kasb_, kas_, w_arSlot, callAt_, kBack_, kCall_, w_Call, pull_nil, pull_fz, pull_sl, pull1_ow, push_nil, push_fz, push_sl, push1_ow, outs_nil, outs_f, outs_o, gN_ap, gTp_ap, gsNil_ap, gsCons_ap, kFor_, w_For, kiR_, w_iR, kiS_l, kiS_t, kiE_l, kiE_t, kiC_s, w_iC, w_iS, w_iE, kRnd_nx, kRnd_ct, kRnd_bk, kRnd_rt, kLcB_, kLcBO_, kLc_, kLcO_, w_Lc, w_LcO, kLcT_, kLcE_, v_add, v_sub, v_mul, v_div, v_mod, v_pow, v_ltA, v_leA, v_gtA, v_geA, v_eqA, v_neA, v_eqAs, v_eqAb, v_plusI, v_max2i, v_min2i, v_one, v_lenL, v_lenT, v_intI, v_tupL, v_tupT, v_lstL, v_lstT, v_sumL, v_sumT, v_maxL, v_minL, u_isN, u_notN, v_isT, v_not, u_neg, v_slL, v_slT, v_ixL, v_ixT, v_r1, v_r2, v_mulW, v_divW, v_gcdI, v_absI, v_sumR, v_foLstT, v_foLstL, v_foLst, v_tupOf, v_lstOf, o_fz, o_ol, o_nil, o_cons, at0, at1, at2, at3, at4, at5, at6, at7, ix_1_0, ix_2_0, ix_2_1, ix_3_0, ix_3_1, ix_3_2, ix_4_0, ix_4_1, ix_4_2, ix_4_3, ix_5_0, ix_5_1, ix_5_2, ix_5_3, ix_5_4, ix_6_0, ix_6_1, ix_6_2, ix_6_3, ix_6_4, ix_6_5, ix_7_0, ix_7_1, ix_7_2, ix_7_3, ix_7_4, ix_7_5, ix_7_6, ix_8_0, ix_8_1, ix_8_2, ix_8_3, ix_8_4, ix_8_5, ix_8_6, ix_8_7, ix_9_0, ix_9_1, ix_9_2, ix_9_3, ix_9_4, ix_9_5, ix_9_6, ix_9_7, ix_9_8, ix_10_0, ix_10_1, ix_10_2, ix_10_3, ix_10_4, ix_10_5, ix_10_6, ix_10_7, ix_10_8, ix_10_9, ix_11_0, ix_11_1, ix_11_2, ix_11_3, ix_11_4, ix_11_5, ix_11_6, ix_11_7, ix_11_8, ix_11_9, ix_11_10, ix_12_0, ix_12_1, ix_12_2, ix_12_3, ix_12_4, ix_12_5, ix_12_6, ix_12_7, ix_12_8, ix_12_9, ix_12_10, ix_12_11, isT_tuple_non, isT_tuple_bl, isT_tuple_int, isT_tuple_str, isT_tuple_tup, isT_tuple_lst, isT_int_non, isT_int_bl, isT_int_int, isT_int_str, isT_int_tup, isT_int_lst, isT_bool_non, isT_bool_bl, isT_bool_int, isT_bool_str, isT_bool_tup, isT_bool_lst, isT_str_non, isT_str_bl, isT_str_int, isT_str_str, isT_str_tup, isT_str_lst, isT_list_non, isT_list_bl, isT_list_int, isT_list_str, isT_list_tup, isT_list_lst, isN_non, isN_bl, isN_int, isN_str, isN_tup, isN_lst, at_ints, sz_iff, big_iff, div_iff, mod_iff, mul_iff, mulW_iff, divW_iff, pow_iff, List.getElem?_cons_succ, List.getElem?_cons_zero, List.set_cons_zero, List.set_cons_succ, List.cons_append, List.nil_append, List.replicate, Option.map_some, Option.bind_some, decide_eq_true_eq, decide_eq_false_iff_not, Option.some.injEq, exists_eq_left', Bool.not_eq_true', Bool.not_eq_false', Bool.not_true, Bool.not_false, Int.not_lt, Int.not_le, true_and, and_true, if_true, List.length_cons, List.length_nil, List.map_cons, List.map_nil, true_imp_iff, false_imp_iff, imp_self, imp_true_iff, not_true_eq_false, not_false_eq_true, List.length_map, Bool.false_eq_true, if_false, Bool.true_eq_false, reduceCtorEq, nos, backs, Sl.keep, decide_true, decide_false, ilist_map, O.lf, List.contains_cons, List.contains_nil, Bool.and_eq_true, beq_self_eq_true, Bool.or_false, Bool.or_true, Bool.true_or, Bool.false_or, and_self, if_pos, gAt_some, ds_fz, Nat.reduceBEq, Nat.reduceEqDiff, ite_self, rangeD_len, numbered_len, Int.toNat_natCast, Nat.reduceAdd, Int.reduceMod, Int.reduceDiv, Int.reduceLT, Int.reduceLE, Int.reduceNeg, Int.reduceMul, Int.reduceAdd, Int.reduceSub, Int.reducePow, Nat.reduceAdd, Nat.reduceLT, Nat.reduceLeDiff, Int.reduceEq, true_or, or_true, Int.reduceToNat, Int.toNat_zero, Int.toNat_one, List.length_set, List.length_append, List.length_singleton, Int.reduceAbs, hs]
      refine ⟨by omega, ?_⟩
      refine w_lcK (fun k ys Γ => ys = (((rs.take k).map backOf).map itD) ∧ Γ = [Sl.fz _, .no, .no]) ⟨rfl, rfl⟩ ?_ ?_
      · rintro k d ys Γ hd ⟨rfl, rfl⟩
        have hk : k < rs.length := by simpa using (List.getElem?_eq_some_iff.mp hd).1
        rw [List.getElem?_map, List.getElem?_eq_getElem hk] at hd
        cases hd
        simp only [w_some, w_ofIf, w_ofMap, vAt_fz, w_var, w_C, k1_, w_1, k2b_, k2_, w_2, kA_, w_A, kMb_, kM_, w_M, w_aNil, kaCb_, kaC_, w_aCons, w_oNo, koAt_i, w_oAt, kSlc_, kSlb_, kSl_, w_Sl, ktB_, w_tB, bl_bl, ktT_, w_tTr, ktAnd_, w_tAnd, ktOr_, w_tOr, ktNot_, w_tNot, w_tYes, kIf_, w_If, kAnd_b, kOr_b, w_And, w_Or, ktL_, kbL_, kbF_, lentT_o, lentT_f, lentB_o, lentB_f, w_tBor, w_Bor, flat_int, flat_bl, flat_str, flat_non, kS_nx, kS_bk, kS_ct, kS_rt, w_Seq, kJ_s, w_J, w_Nx, w_Bk, w_Ct, kSet_, w_Set, kAugb_, kAugc_, kAug_, w_Aug, kParb_, kPar_, w_Par, gAt_some, kAsg_, w_Asg, kDrop_, w_Drop, kRet_, w_Ret, w_RetN, kIfS_, w_IfS, kApp_, kApp2_, appAt_, w_App, kPut_, putAt_, kPut2_, kPut3_, w_Put, w_Frz, frz_eq, frz1_ow, frz1_fz, kSetO_, w_SetO, kUp_, w_Up, kO_, w_O, dAt_, kFz_, w_Fz, rAt_ow, kRetO_, w_RetO, fEnd_rt, fEnd_nx, w_Fn, w_noEx, w_arNil, karb_, kar_, w_arCons, kasb_, kas_, w_arSlot, callAt_, kBack_, kCall_, w_Call, pull_nil, pull_fz, pull_sl, pull1_ow, push_nil, push_fz, push_sl, push1_ow, outs_nil, outs_f, outs_o, gN_ap, gTp_ap, gsNil_ap, gsCons_ap, kFor_, w_For, kiR_, w_iR, kiS_l, kiS_t, kiE_l, kiE_t, kiC_s, w_iC, w_iS, w_iE, kRnd_nx, kRnd_ct, kRnd_bk, kRnd_rt, kLcB_, kLcBO_, kLc_, kLcO_, w_Lc, w_LcO, kLcT_, kLcE_, v_add, v_sub, v_mul, v_div, v_mod, v_pow, v_ltA, v_leA, v_gtA, v_geA, v_eqA, v_neA, v_eqAs, v_eqAb, v_plusI, v_max2i, v_min2i, v_one, v_lenL, v_lenT, v_intI, v_tupL, v_tupT, v_lstL, v_lstT, v_sumL, v_sumT, v_maxL, v_minL, u_isN, u_notN, v_isT, v_not, u_neg, v_slL, v_slT, v_ixL, v_ixT, v_r1, v_r2, v_mulW, v_divW, v_gcdI, v_absI, v_sumR, v_foLstT, v_foLstL, v_foLst, v_tupOf, v_lstOf, o_fz, o_ol, o_nil, o_cons, at0, at1, at2, at3, at4, at5, at6, at7, ix_1_0, ix_2_0, ix_2_1, ix_3_0, ix_3_1, ix_3_2, ix_4_0, ix_4_1, ix_4_2, ix_4_3, ix_5_0, ix_5_1, ix_5_2, ix_5_3, ix_5_4, ix_6_0, ix_6_1, ix_6_2, ix_6_3, ix_6_4, ix_6_5, ix_7_0, ix_7_1, ix_7_2, ix_7_3, ix_7_4, ix_7_5, ix_7_6, ix_8_0, ix_8_1, ix_8_2, ix_8_3, ix_8_4, ix_8_5, ix_8_6, ix_8_7, ix_9_0, ix_9_1, ix_9_2, ix_9_3, ix_9_4, ix_9_5, ix_9_6, ix_9_7, ix_9_8, ix_10_0, ix_10_1, ix_10_2, ix_10_3, ix_10_4, ix_10_5, ix_10_6, ix_10_7, ix_10_8, ix_10_9, ix_11_0, ix_11_1, ix_11_2, ix_11_3, ix_11_4, ix_11_5, ix_11_6, ix_11_7, ix_11_8, ix_11_9, ix_11_10, ix_12_0, ix_12_1, ix_12_2, ix_12_3, ix_12_4, ix_12_5, ix_12_6, ix_12_7, ix_12_8, ix_12_9, ix_12_10, ix_12_11, isT_tuple_non, isT_tuple_bl, isT_tuple_int, isT_tuple_str, isT_tuple_tup, isT_tuple_lst, isT_int_non, isT_int_bl, isT_int_int, isT_int_str, isT_int_tup, isT_int_lst, isT_bool_non, isT_bool_bl, isT_bool_int, isT_bool_str, isT_bool_tup, isT_bool_lst, isT_str_non, isT_str_bl, isT_str_int, isT_str_str, isT_str_tup, isT_str_lst, isT_list_non, isT_list_bl, isT_list_int, isT_list_str, isT_list_tup, isT_list_lst, isN_non, isN_bl, isN_int, isN_str, isN_tup, isN_lst, at_ints, sz_iff, big_iff, div_iff, mod_iff, mul_iff, mulW_iff, divW_iff, pow_iff, List.getElem?_cons_succ, List.getElem?_cons_zero, List.set_cons_zero, List.set_cons_succ, List.cons_append, List.nil_append, List.replicate, Option.map_some, Option.bind_some, decide_eq_true_eq, decide_eq_false_iff_not, Option.some.injEq, exists_eq_left', Bool.not_eq_true', Bool.not_eq_false', Bool.not_true, Bool.not_false, Int.not_lt, Int.not_le, true_and, and_true, if_true, List.length_cons, List.length_nil, List.map_cons, List.map_nil, true_imp_iff, false_imp_iff, imp_self, imp_true_iff, not_true_eq_false, not_false_eq_true, List.length_map, Bool.false_eq_true, if_false, Bool.true_eq_false, reduceCtorEq, nos, backs, Sl.keep, decide_true, decide_false, ilist_map, O.lf, List.contains_cons, List.contains_nil, Bool.and_eq_true, beq_self_eq_true, Bool.or_false, Bool.or_true, Bool.true_or, Bool.false_or, and_self, if_pos, gAt_some, ds_fz, Nat.reduceBEq, Nat.reduceEqDiff, ite_self, rangeD_len, numbered_len, Int.toNat_natCast, Nat.reduceAdd, Int.reduceMod, Int.reduceDiv, Int.reduceLT, Int.reduceLE, Int.reduceNeg, Int.reduceMul, Int.reduceAdd, Int.reduceSub, Int.reducePow, Nat.reduceAdd, Nat.reduceLT, Nat.reduceLeDiff, Int.reduceEq, true_or, or_true, Int.reduceToNat, Int.toNat_zero, Int.toNat_one, List.length_set, List.length_append, List.length_singleton, Int.reduceAbs, keyD, take_map_succ hk, List.map_append, backOf, itD]
      · rintro ys Γ ⟨rfl, rfl⟩
        rw [List.length_map, List.take_length]
        simp only [w_some, w_ofIf, w_ofMap, vAt_fz, w_var, w_C, k1_, w_1, k2b_, k2_, w_2, kA_, w_A, kMb_, kM_, w_M, w_aNil, kaCb_, kaC_, w_aCons, w_oNo, koAt_i, w_oAt, kSlc_, kSlb_, kSl_, w_Sl, ktB_, w_tB, bl_bl, ktT_, w_tTr, ktAnd_, w_tAnd, ktOr_, w_tOr, ktNot_, w_tNot, w_tYes, kIf_, w_If, kAnd_b, kOr_b, w_And, w_Or, ktL_, kbL_, kbF_, lentT_o, lentT_f, lentB_o, lentB_f, w_tBor, w_Bor, flat_int, flat_bl, flat_str, flat_non, kS_nx, kS_bk, kS_ct, kS_rt, w_Seq, kJ_s, w_J, w_Nx, w_Bk, w_Ct, kSet_, w_Set, kAugb_, kAugc_, kAug_, w_Aug, kParb_, kPar_, w_Par, gAt_some, kAsg_, w_Asg, kDrop_, w_Drop, kRet_, w_Ret, w_RetN, kIfS_, w_IfS, kApp_, kApp2_, appAt_, w_App, kPut_, putAt_, kPut2_, kPut3_, w_Put, w_Frz, frz_eq, frz1_ow, frz1_fz, kSetO_, w_SetO, kUp_, w_Up, kO_, w_O, dAt_, kFz_, w_Fz, rAt_ow, kRetO_, w_RetO, fEnd_rt, fEnd_nx, w_Fn, w_noEx, w_arNil, karb_, kar_, w_arCons, kasb_, kas_, w_arSlot, callAt_, kBack_, kCall_, w_Call, pull_nil, pull_fz, pull_sl, pull1_ow, push_nil, push_fz, push_sl, push1_ow, outs_nil, outs_f, outs_o, gN_ap, gTp_ap, gsNil_ap, gsCons_ap, kFor_, w_For, kiR_, w_iR, kiS_l, kiS_t, kiE_l, kiE_t, kiC_s, w_iC, w_iS, w_iE, kRnd_nx, kRnd_ct, kRnd_bk, kRnd_rt, kLcB_, kLcBO_, kLc_, kLcO_, w_Lc, w_LcO, kLcT_, kLcE_, v_add, v_sub, v_mul, v_div, v_mod, v_pow, v_ltA, v_leA, v_gtA, v_geA, v_eqA, v_neA, v_eqAs, v_eqAb, v_plusI, v_max2i, v_min2i, v_one, v_lenL, v_lenT, v_intI, v_tupL, v_tupT, v_lstL, v_lstT, v_sumL, v_sumT, v_maxL, v_minL, u_isN, u_notN, v_isT, v_not, u_neg, v_slL, v_slT, v_ixL, v_ixT, v_r1, v_r2, v_mulW, v_divW, v_gcdI, v_absI, v_sumR, v_foLstT, v_foLstL, v_foLst, v_tupOf, v_lstOf, o_fz, o_ol, o_nil, o_cons, at0, at1, at2, at3, at4, at5, at6, at7, ix_1_0, ix_2_0, ix_2_1, ix_3_0, ix_3_1, ix_3_2, ix_4_0, ix_4_1, ix_4_2, ix_4_3, ix_5_0, ix_5_1, ix_5_2, ix_5_3, ix_5_4, ix_6_0, ix_6_1, ix_6_2, ix_6_3, ix_6_4, ix_6_5, ix_7_0, ix_7_1, ix_7_2, ix_7_3, ix_7_4, ix_7_5, ix_7_6, ix_8_0, ix_8_1, ix_8_2, ix_8_3, ix_8_4, ix_8_5, ix_8_6, ix_8_7, ix_9_0, ix_9_1, ix_9_2, ix_9_3, ix_9_4, ix_9_5, ix_9_6, ix_9_7, ix_9_8, ix_10_0, ix_10_1, ix_10_2, ix_10_3, ix_10_4, ix_10_5, ix_10_6, ix_10_7, ix_10_8, ix_10_9, ix_11_0, ix_11_1, ix_11_2, ix_11_3, ix_11_4, ix_11_5, ix_11_6, ix_11_7, ix_11_8, ix_11_9, ix_11_10, ix_12_0, ix_12_1, ix_12_2, ix_12_3, ix_12_4, ix_12_5, ix_12_6, ix_12_7, ix_12_8, ix_12_9, ix_12_10, ix_12_11, isT_tuple_non, isT_tuple_bl, isT_tuple_int, isT_tuple_str, isT_tuple_tup, isT_tuple_lst, isT_int_non, isT_int_bl, isT_int_int, isT_int_str, isT_int_tup, isT_int_lst, isT_bool_non, isT_bool_bl, isT_bool_int, isT_bool_str, isT_bool_tup, isT_bool_lst, isT_str_non, isT_str_bl, isT_str_int, isT_str_str, isT_str_tup, isT_str_lst, isT_list_non, isT_list_bl, isT_list_int, isT_list_str, isT_list_tup, isT_list_lst, isN_non, isN_bl, isN_int, isN_str, isN_tup, isN_lst, at_ints, sz_iff, big_iff, div_iff, mod_iff, mul_iff, mulW_iff, divW_iff, pow_iff, List.getElem?_cons_succ, List.getElem?_cons_zero, List.set_cons_zero, List.set_cons_succ, List.cons_append, List.nil_append, List.replicate, Option.map_some, Option.bind_some, decide_eq_true_eq, decide_eq_false_iff_not, Option.some.injEq, exists_eq_left', Bool.not_eq_true', Bool.not_eq_false', Bool.not_true, Bool.not_false, Int.not_lt, Int.not_le, true_and, and_true, if_true, List.length_cons, List.length_nil, List.map_cons, List.map_nil, true_imp_iff, false_imp_iff, imp_self, imp_true_iff, not_true_eq_false, not_false_eq_true, List.length_map, Bool.false_eq_true, if_false, Bool.true_eq_false, reduceCtorEq, nos, backs, Sl.keep, decide_true, decide_false, ilist_map, O.lf, List.contains_cons, List.contains_nil, Bool.and_eq_true, beq_self_eq_true, Bool.or_false, Bool.or_true, Bool.true_or, Bool.false_or, and_self, if_pos, gAt_some, ds_fz, Nat.reduceBEq, Nat.reduceEqDiff, ite_self, rangeD_len, numbered_len, Int.toNat_natCast, Nat.reduceAdd, Int.reduceMod, Int.reduceDiv, Int.reduceLT, Int.reduceLE, Int.reduceNeg, Int.reduceMul, Int.reduceAdd, Int.reduceSub, Int.reducePow, Nat.reduceAdd, Nat.reduceLT, Nat.reduceLeDiff, Int.reduceEq, true_or, or_true, Int.reduceToNat, Int.toNat_zero, Int.toNat_one, List.length_set, List.length_append, List.length_singleton, Int.reduceAbs]

theorem falling_ok {ps : List (Str × Int)} (hl : ps.length ≤ 1000000) (hw : wordsOk (ps.map (·.1))) {rs : List (Int × Str)} (hr : sortD false ((ps.map keyOf).map keyD) = rs.map keyD) (hp : rs.length = ps.length) : m_x_law_falling [.lst (ps.map itD)] = some (.lst ((rs.map backOf).map itD)) := by
  have hs : oSorted false (.lst ((ps.map keyOf).map keyD)) = some (.lst (rs.map keyD)) := by
    simp only [oSorted, c_key (qs := ps.map keyOf) (by rw [List.map_map]; exact hw), if_true, hr]
  refine w_toP rfl ?_
  unfold δ_x_law_falling
  simp only [w_some, w_ofIf, w_ofMap, vAt_fz, w_var, w_C, k1_, w_1, k2b_, k2_, w_2, kA_, w_A, kMb_, kM_, w_M, w_aNil, kaCb_, kaC_, w_aCons, w_oNo, koAt_i, w_oAt, kSlc_, kSlb_, kSl_, w_Sl, ktB_, w_tB, bl_bl, ktT_, w_tTr, ktAnd_, w_tAnd, ktOr_, w_tOr, ktNot_, w_tNot, w_tYes, kIf_, w_If, kAnd_b, kOr_b, w_And, w_Or, ktL_, kbL_, kbF_, lentT_o, lentT_f, lentB_o, lentB_f, w_tBor, w_Bor, flat_int, flat_bl, flat_str, flat_non, kS_nx, kS_bk, kS_ct, kS_rt, w_Seq, kJ_s, w_J, w_Nx, w_Bk, w_Ct, kSet_, w_Set, kAugb_, kAugc_, kAug_, w_Aug, kParb_, kPar_, w_Par, gAt_some, kAsg_, w_Asg, kDrop_, w_Drop, kRet_, w_Ret, w_RetN, kIfS_, w_IfS, kApp_, kApp2_, appAt_, w_App, kPut_, putAt_, kPut2_, kPut3_, w_Put, w_Frz, frz_eq, frz1_ow, frz1_fz, kSetO_, w_SetO, kUp_, w_Up, kO_, w_O, dAt_, kFz_, w_Fz, rAt_ow, kRetO_, w_RetO, fEnd_rt, fEnd_nx, w_Fn, w_noEx, w_arNil, karb_, kar_, w_arCons, kasb_, kas_, w_arSlot, callAt_, kBack_, kCall_, w_Call, pull_nil, pull_fz, pull_sl, pull1_ow, push_nil, push_fz, push_sl, push1_ow, outs_nil, outs_f, outs_o, gN_ap, gTp_ap, gsNil_ap, gsCons_ap, kFor_, w_For, kiR_, w_iR, kiS_l, kiS_t, kiE_l, kiE_t, kiC_s, w_iC, w_iS, w_iE, kRnd_nx, kRnd_ct, kRnd_bk, kRnd_rt, kLcB_, kLcBO_, kLc_, kLcO_, w_Lc, w_LcO, kLcT_, kLcE_, v_add, v_sub, v_mul, v_div, v_mod, v_pow, v_ltA, v_leA, v_gtA, v_geA, v_eqA, v_neA, v_eqAs, v_eqAb, v_plusI, v_max2i, v_min2i, v_one, v_lenL, v_lenT, v_intI, v_tupL, v_tupT, v_lstL, v_lstT, v_sumL, v_sumT, v_maxL, v_minL, u_isN, u_notN, v_isT, v_not, u_neg, v_slL, v_slT, v_ixL, v_ixT, v_r1, v_r2, v_mulW, v_divW, v_gcdI, v_absI, v_sumR, v_foLstT, v_foLstL, v_foLst, v_tupOf, v_lstOf, o_fz, o_ol, o_nil, o_cons, at0, at1, at2, at3, at4, at5, at6, at7, ix_1_0, ix_2_0, ix_2_1, ix_3_0, ix_3_1, ix_3_2, ix_4_0, ix_4_1, ix_4_2, ix_4_3, ix_5_0, ix_5_1, ix_5_2, ix_5_3, ix_5_4, ix_6_0, ix_6_1, ix_6_2, ix_6_3, ix_6_4, ix_6_5, ix_7_0, ix_7_1, ix_7_2, ix_7_3, ix_7_4, ix_7_5, ix_7_6, ix_8_0, ix_8_1, ix_8_2, ix_8_3, ix_8_4, ix_8_5, ix_8_6, ix_8_7, ix_9_0, ix_9_1, ix_9_2, ix_9_3, ix_9_4, ix_9_5, ix_9_6, ix_9_7, ix_9_8, ix_10_0, ix_10_1, ix_10_2, ix_10_3, ix_10_4, ix_10_5, ix_10_6, ix_10_7, ix_10_8, ix_10_9, ix_11_0, ix_11_1, ix_11_2, ix_11_3, ix_11_4, ix_11_5, ix_11_6, ix_11_7, ix_11_8, ix_11_9, ix_11_10, ix_12_0, ix_12_1, ix_12_2, ix_12_3, ix_12_4, ix_12_5, ix_12_6, ix_12_7, ix_12_8, ix_12_9, ix_12_10, ix_12_11, isT_tuple_non, isT_tuple_bl, isT_tuple_int, isT_tuple_str, isT_tuple_tup, isT_tuple_lst, isT_int_non, isT_int_bl, isT_int_int, isT_int_str, isT_int_tup, isT_int_lst, isT_bool_non, isT_bool_bl, isT_bool_int, isT_bool_str, isT_bool_tup, isT_bool_lst, isT_str_non, isT_str_bl, isT_str_int, isT_str_str, isT_str_tup, isT_str_lst, isT_list_non, isT_list_bl, isT_list_int, isT_list_str, isT_list_tup, isT_list_lst, isN_non, isN_bl, isN_int, isN_str, isN_tup, isN_lst, at_ints, sz_iff, big_iff, div_iff, mod_iff, mul_iff, mulW_iff, divW_iff, pow_iff, List.getElem?_cons_succ, List.getElem?_cons_zero, List.set_cons_zero, List.set_cons_succ, List.cons_append, List.nil_append, List.replicate, Option.map_some, Option.bind_some, decide_eq_true_eq, decide_eq_false_iff_not, Option.some.injEq, exists_eq_left', Bool.not_eq_true', Bool.not_eq_false', Bool.not_true, Bool.not_false, Int.not_lt, Int.not_le, true_and, and_true, if_true, List.length_cons, List.length_nil, List.map_cons, List.map_nil, true_imp_iff, false_imp_iff, imp_self, imp_true_iff, not_true_eq_false, not_false_eq_true, List.length_map, Bool.false_eq_true, if_false, Bool.true_eq_false, reduceCtorEq, nos, backs, Sl.keep, decide_true, decide_false, ilist_map, O.lf, List.contains_cons, List.contains_nil, Bool.and_eq_true, beq_self_eq_true, Bool.or_false, Bool.or_true, Bool.true_or, Bool.false_or, and_self, if_pos, gAt_some, ds_fz, Nat.reduceBEq, Nat.reduceEqDiff, ite_self, rangeD_len, numbered_len, Int.toNat_natCast, Nat.reduceAdd, Int.reduceMod, Int.reduceDiv, Int.reduceLT, Int.reduceLE, Int.reduceNeg, Int.reduceMul, Int.reduceAdd, Int.reduceSub, Int.reducePow, Nat.reduceAdd, Nat.reduceLT, Nat.reduceLeDiff, Int.reduceEq, true_or, or_true, Int.reduceToNat, Int.toNat_zero, Int.toNat_one, List.length_set, List.length_append, List.length_singleton, Int.reduceAbs]
  refine ⟨by omega, ?_⟩
  refine w_lcK (fun k ys Γ => ys = (((ps.take k).map keyOf).map keyD) ∧ Γ = [Sl.fz _, .no, .no, .no]) ⟨rfl, rfl⟩ ?_ ?_
  · rintro k d ys Γ hd ⟨rfl, rfl⟩
    have hk : k < ps.length := by simpa using (List.getElem?_eq_some_iff.mp hd).1
    rw [List.getElem?_map, List.getElem?_eq_getElem hk] at hd
    cases hd
    simp only [w_some, w_ofIf, w_ofMap, vAt_fz, w_var, w_C, k1_, w_1, k2b_, k2_, w_2, kA_, w_A, kMb_, kM_, w_M, w_aNil, kaCb_, kaC_, w_aCons, w_oNo, koAt_i, w_oAt, kSlc_, kSlb_, kSl_, w_Sl, ktB_, w_tB, bl_bl, ktT_, w_tTr, ktAnd_, w_tAnd, ktOr_, w_tOr, ktNot_, w_tNot, w_tYes, kIf_, w_If, kAnd_b, kOr_b, w_And, w_Or, ktL_, kbL_, kbF_, lentT_o, lentT_f, lentB_o, lentB_f, w_tBor, w_Bor, flat_int, flat_bl, flat_str, flat_non, kS_nx, kS_bk, kS_ct, kS_rt, w_Seq, kJ_s, w_J, w_Nx, w_Bk, w_Ct, kSet_, w_Set, kAugb_, kAugc_, kAug_, w_Aug, kParb_, kPar_, w_Par, gAt_some, kAsg_, w_Asg, kDrop_, w_Drop, kRet_, w_Ret, w_RetN, kIfS_, w_IfS, kApp_, kApp2_, appAt_, w_App, kPut_, putAt_, kPut2_, kPut3_, w_Put, w_Frz, frz_eq, frz1_ow, frz1_fz, kSetO_, w_SetO, kUp_, w_Up, kO_, w_O, dAt_, kFz_, w_Fz, rAt_ow, kRetO_, w_RetO, fEnd_rt, fEnd_nx, w_Fn, w_noEx, w_arNil, karb_, kar_, w_arCons, kasb_, kas_, w_arSlot, callAt_, kBack_, kCall_, w_Call, pull_nil, pull_fz, pull_sl, pull1_ow, push_nil, push_fz, push_sl, push1_ow, outs_nil, outs_f, outs_o, gN_ap, gTp_ap, gsNil_ap, gsCons_ap, kFor_, w_For, kiR_, w_iR, kiS_l, kiS_t, kiE_l, kiE_t, kiC_s, w_iC, w_iS, w_iE, kRnd_nx, kRnd_ct, kRnd_bk, kRnd_rt, kLcB_, kLcBO_, kLc_, kLcO_, w_Lc, w_LcO, kLcT_, kLcE_, v_add, v_sub, v_mul, v_div, v_mod, v_pow, v_ltA, v_leA, v_gtA, v_geA, v_eqA, v_neA, v_eqAs, v_eqAb, v_plusI, v_max2i, v_min2i, v_one, v_lenL, v_lenT, v_intI, v_tupL, v_tupT, v_lstL, v_lstT, v_sumL, v_sumT, v_maxL, v_minL, u_isN, u_notN, v_isT, v_not, u_neg, v_slL, v_slT, v_ixL, v_ixT, v_r1, v_r2, v_mulW, v_divW, v_gcdI, v_absI, v_sumR, v_foLstT, v_foLstL, v_foLst, v_tupOf, v_lstOf, o_fz, o_ol, o_nil, o_cons, at0, at1, at2, at3, at4, at5, at6, at7, ix_1_0, ix_2_0, ix_2_1, ix_3_0, ix_3_1, ix_3_2, ix_4_0, ix_4_1, ix_4_2, ix_4_3, ix_5_0, ix_5_1, ix_5_2, ix_5_3, ix_5_4, ix_6_0, ix_6_1, ix_6_2, ix_6_3, ix_6_4, ix_6_5, ix_7_0, ix_7_1, ix_7_2, ix_7_3, ix_7_4, ix_7_5, ix_7_6, ix_8_0, ix_8_1, ix_8_2, ix_8_3, ix_8_4, ix_8_5, ix_8_6, ix_8_7, ix_9_0, ix_9_1, ix_9_2, ix_9_3, ix_9_4, ix_9_5, ix_9_6, ix_9_7, ix_9_8, ix_10_0, ix_10_1, ix_10_2, ix_10_3, ix_10_4, ix_10_5, ix_10_6, ix_10_7, ix_10_8, ix_10_9, ix_11_0, ix_11_1, ix_11_2, ix_11_3, ix_11_4, ix_11_5, ix_11_6, ix_11_7, ix_11_8, ix_11_9, ix_11_10, ix_12_0, ix_12_1, ix_12_2, ix_12_3, ix_12_4, ix_12_5, ix_12_6, ix_12_7, ix_12_8, ix_12_9, ix_12_10, ix_12_11, isT_tuple_non, isT_tuple_bl, isT_tuple_int, isT_tuple_str, isT_tuple_tup, isT_tuple_lst, isT_int_non, isT_int_bl, isT_int_int, isT_int_str, isT_int_tup, isT_int_lst, isT_bool_non, isT_bool_bl, isT_bool_int, isT_bool_str, isT_bool_tup, isT_bool_lst, isT_str_non, isT_str_bl, isT_str_int, isT_str_str, isT_str_tup, isT_str_lst, isT_list_non, isT_list_bl, isT_list_int, isT_list_str, isT_list_tup, isT_list_lst, isN_non, isN_bl, isN_int, isN_str, isN_tup, isN_lst, at_ints, sz_iff, big_iff, div_iff, mod_iff, mul_iff, mulW_iff, divW_iff, pow_iff, List.getElem?_cons_succ, List.getElem?_cons_zero, List.set_cons_zero, List.set_cons_succ, List.cons_append, List.nil_append, List.replicate, Option.map_some, Option.bind_some, decide_eq_true_eq, decide_eq_false_iff_not, Option.some.injEq, exists_eq_left', Bool.not_eq_true', Bool.not_eq_false', Bool.not_true, Bool.not_false, Int.not_lt, Int.not_le, true_and, and_true, if_true, List.length_cons, List.length_nil, List.map_cons, List.map_nil, true_imp_iff, false_imp_iff, imp_self, imp_true_iff, not_true_eq_false, not_false_eq_true, List.length_map, Bool.false_eq_true, if_false, Bool.true_eq_false, reduceCtorEq, nos, backs, Sl.keep, decide_true, decide_false, ilist_map, O.lf, List.contains_cons, List.contains_nil, Bool.and_eq_true, beq_self_eq_true, Bool.or_false, Bool.or_true, Bool.true_or, Bool.false_or, and_self, if_pos, gAt_some, ds_fz, Nat.reduceBEq, Nat.reduceEqDiff, ite_self, rangeD_len, numbered_len, Int.toNat_natCast, Nat.reduceAdd, Int.reduceMod, Int.reduceDiv, Int.reduceLT, Int.reduceLE, Int.reduceNeg, Int.reduceMul, Int.reduceAdd, Int.reduceSub, Int.reducePow, Nat.reduceAdd, Nat.reduceLT, Nat.reduceLeDiff, Int.reduceEq, true_or, or_true, Int.reduceToNat, Int.toNat_zero, Int.toNat_one, List.length_set, List.length_append, List.length_singleton, Int.reduceAbs, itD, take_map_succ hk, List.map_append, keyOf, keyD]
  · rintro ys Γ ⟨rfl, rfl⟩
    rw [List.length_map, List.take_length]
    simp only [w_some, w_ofIf, w_ofMap, vAt_fz, w_var, w_C, k1_, w_1, k2b_, k2_, w_2, kA_, w_A, kMb_, kM_, w_M, w_aNil, kaCb_, kaC_, w_aCons, w_oNo, koAt_i, w_oAt, kSlc_, kSlb_, kSl_, w_Sl, ktB_, w_tB, bl_bl, ktT_, w_tTr, ktAnd_, w_tAnd, ktOr_, w_tOr, ktNot_, w_tNot, w_tYes, kIf_, w_If, kAnd_b, kOr_b, w_And, w_Or, ktL_, kbL_, kbF_, lentT_o, lentT_f, lentB_o, lentB_f, w_tBor, w_Bor, flat_int, flat_bl, flat_str, flat_non, kS_nx, kS_bk, kS_ct, kS_rt, w_Seq, kJ_s, w_J, w_Nx, w_Bk, w_Ct, kSet_, w_Set, kAugb_, kAugc_, kAug_, w_Aug, kParb_, kPar_, w_Par, gAt_some, kAsg_, w_Asg, kDrop_, w_Drop, kRet_, w_Ret, w_RetN, kIfS_, w_IfS, kApp_, kApp2_, appAt_, w_App, kPut_, putAt_, kPut2_, kPut3_, w_Put, w_Frz, frz_eq, frz1_ow, frz1_fz, kSetO_, w_SetO, kUp_, w_Up, kO_, w_O, dAt_, kFz_, w_Fz, rAt_ow, kRetO_, w_RetO, fEnd_rt, fEnd_nx, w_Fn, w_noEx, w_arNil, karb_, kar_, w_arCons, kasb_, kas_, w_arSlot, callAt_, kBack_, kCall_, w_Call, pull_nil, pull_fz, pull_sl, pull1_ow, push_nil, push_fz, push_sl, push1_ow, outs_nil, outs_f, outs_o, gN_ap, gTp_ap, gsNil_ap, gsCons_ap, kFor_, w_For, kiR_, w_iR, kiS_l, kiS_t, kiE_l, kiE_t, kiC_s, w_iC, w_iS, w_iE, kRnd_nx, kRnd_ct, kRnd_bk, kRnd_rt, kLcB_, kLcBO_, kLc_, kLcO_, w_Lc, w_LcO, kLcT_, kLcE_, v_add, v_sub, v_mul, v_div, v_mod, v_pow, v_ltA, v_leA, v_gtA, v_geA, v_eqA, v_neA, v_eqAs, v_eqAb, v_plusI, v_max2i, v_min2i, v_one, v_lenL, v_lenT, v_intI, v_tupL, v_tupT, v_lstL, v_lstT, v_sumL, v_sumT, v_maxL, v_minL, u_isN, u_notN, v_isT, v_not, u_neg, v_slL, v_slT, v_ixL, v_ixT, v_r1, v_r2, v_mulW, v_divW, v_gcdI, v_absI, v_sumR, v_foLstT, v_foLstL, v_foLst, v_tupOf, v_lstOf, o_fz, o_ol, o_nil, o_cons, at0, at1, at2, at3, at4, at5, at6, at7, ix_1_0, ix_2_0, ix_2_1, ix_3_0, ix_3_1, ix_3_2, ix_4_0, ix_4_1, ix_4_2, ix_4_3, ix_5_0, ix_5_1, ix_5_2, ix_5_3, ix_5_4, ix_6_0, ix_6_1, ix_6_2, ix_6_3, ix_6_4, ix_6_5, ix_7_0, ix_7_1, ix_7_2, ix_7_3, ix_7_4, ix_7_5, ix_7_6, ix_8_0, ix_8_1, ix_8_2, ix_8_3, ix_8_4, ix_8_5, ix_8_6, ix_8_7, ix_9_0, ix_9_1, ix_9_2, ix_9_3, ix_9_4, ix_9_5, ix_9_6, ix_9_7, ix_9_8, ix_10_0, ix_10_1, ix_10_2, ix_10_3, ix_10_4, ix_10_5, ix_10_6, ix_10_7, ix_10_8, ix_10_9, ix_11_0, ix_11_1, ix_11_2, ix_11_3, ix_11_4, ix_11_5, ix_11_6, ix_11_7, ix_11_8, ix_11_9, ix_11_10, ix_12_0, ix_12_1, ix_12_2, ix_12_3, ix_12_4, ix_12_5, ix_12_6, ix_12_7, ix_12_8, ix_12_9, ix_12_10, ix_12_11, isT_tuple_non, isT_tuple_bl, isT_tuple_int, isT_tuple_str, isT_tuple_tup, isT_tuple_lst, isT_int_non, isT_int_bl, isT_int_int, isT_int_str, isT_int_tup, isT_int_lst, isT_bool_non, isT_bool_bl, isT_bool_int, isT_bool_str, isT_bool_tup, isT_bool_lst, isT_str_non, isT_str_bl, isT_str_int, isT_str_str, isT_str_tup, isT_str_lst, isT_list_non, isT_list_bl, isT_list_int, isT_list_str, isT_list_tup, isT_list_lst, isN_non, isN_bl, isN_int, isN_str, isN_tup, isN_lst, at_ints, sz_iff, big_iff, div_iff, mod_iff, mul_iff, mulW_iff, divW_iff, pow_iff, List.getElem?_cons_succ, List.getElem?_cons_zero, List.set_cons_zero, List.set_cons_succ, List.cons_append, List.nil_append, List.replicate, Option.map_some, Option.bind_some, decide_eq_true_eq, decide_eq_false_iff_not, Option.some.injEq, exists_eq_left', Bool.not_eq_true', Bool.not_eq_false', Bool.not_true, Bool.not_false, Int.not_lt, Int.not_le, true_and, and_true, if_true, List.length_cons, List.length_nil, List.map_cons, List.map_nil, true_imp_iff, false_imp_iff, imp_self, imp_true_iff, not_true_eq_false, not_false_eq_true, List.length_map, Bool.false_eq_true, if_false, Bool.true_eq_false, reduceCtorEq, nos, backs, Sl.keep, decide_true, decide_false, ilist_map, O.lf, List.contains_cons, List.contains_nil, Bool.and_eq_true, beq_self_eq_true, Bool.or_false, Bool.or_true, Bool.true_or, Bool.false_or, and_self, if_pos, gAt_some, ds_fz, Nat.reduceBEq, Nat.reduceEqDiff, ite_self, rangeD_len, numbered_len, Int.toNat_natCast, Nat.reduceAdd, Int.reduceMod, Int.reduceDiv, Int.reduceLT, Int.reduceLE, Int.reduceNeg, Int.reduceMul, Int.reduceAdd, Int.reduceSub, Int.reducePow, Nat.reduceAdd, Nat.reduceLT, Nat.reduceLeDiff, Int.reduceEq, true_or, or_true, Int.reduceToNat, Int.toNat_zero, Int.toNat_one, List.length_set, List.length_append, List.length_singleton, Int.reduceAbs, hs]
    refine ⟨by omega, ?_⟩
    refine w_lcK (fun k ys Γ => ys = (((rs.take k).map backOf).map itD) ∧ Γ = [Sl.fz _, .fz (.lst (rs.map keyD)), .no, .no]) ⟨rfl, rfl⟩ ?_ ?_
    · rintro k d ys Γ hd ⟨rfl, rfl⟩
      have hk : k < rs.length := by simpa using (List.getElem?_eq_some_iff.mp hd).1
      rw [List.getElem?_map, List.getElem?_eq_getElem hk] at hd
      cases hd
      simp only [w_some, w_ofIf, w_ofMap, vAt_fz, w_var, w_C, k1_, w_1, k2b_, k2_, w_2, kA_, w_A, kMb_, kM_, w_M, w_aNil, kaCb_, kaC_, w_aCons, w_oNo, koAt_i, w_oAt, kSlc_, kSlb_, kSl_, w_Sl, ktB_, w_tB, bl_bl, ktT_, w_tTr, ktAnd_, w_tAnd, ktOr_, w_tOr, ktNot_, w_tNot, w_tYes, kIf_, w_If, kAnd_b, kOr_b, w_And, w_Or, ktL_, kbL_, kbF_, lentT_o, lentT_f, lentB_o, lentB_f, w_tBor, w_Bor, flat_int, flat_bl, flat_str, flat_non, kS_nx, kS_bk, kS_ct, kS_rt, w_Seq, kJ_s, w_J, w_Nx, w_Bk, w_Ct, kSet_, w_Set, kAugb_, kAugc_, kAug_, w_Aug, kParb_, kPar_, w_Par, gAt_some, kAsg_, w_Asg, kDrop_, w_Drop, kRet_, w_Ret, w_RetN, kIfS_, w_IfS, kApp_, kApp2_, appAt_, w_App, kPut_, putAt_, kPut2_, kPut3_, w_Put, w_Frz, frz_eq, frz1_ow, frz1_fz, kSetO_, w_SetO, kUp_, w_Up, kO_, w_O, dAt_, kFz_, w_Fz, rAt_ow, kRetO_, w_RetO, fEnd_rt, fEnd_nx, w_Fn, w_noEx, w_arNil, karb_, kar_, w_arCons, kasb_, kas_, w_arSlot, callAt_, kBack_, kCall_, w_Call, pull_nil, pull_fz, pull_sl, pull1_ow, push_nil, push_fz, push_sl, push1_ow, outs_nil, outs_f, outs_o, gN_ap, gTp_ap, gsNil_ap, gsCons_ap, kFor_, w_For, kiR_, w_iR, kiS_l, kiS_t, kiE_l, kiE_t, kiC_s, w_iC, w_iS, w_iE, kRnd_nx, kRnd_ct, kRnd_bk, kRnd_rt, kLcB_, kLcBO_, kLc_, kLcO_, w_Lc, w_LcO, kLcT_, kLcE_, v_add, v_sub, v_mul, v_div, v_mod, v_pow, v_ltA, v_leA, v_gtA, v_geA, v_eqA, v_neA, v_eqAs, v_eqAb, v_plusI, v_max2i, v_min2i, v_one, v_lenL, v_lenT, v_intI, v_tupL, v_tupT, v_lstL, v_lstT, v_sumL, v_sumT, v_maxL, v_minL, u_isN, u_notN, v_isT, v_not, u_neg, v_slL, v_slT, v_ixL, v_ixT, v_r1, v_r2, v_mulW, v_divW, v_gcdI, v_absI, v_sumR, v_foLstT, v_foLstL, v_foLst, v_tupOf, v_lstOf, o_fz, o_ol, o_nil, o_cons, at0, at1, at2, at3, at4, at5, at6, at7, ix_1_0, ix_2_0, ix_2_1, ix_3_0, ix_3_1, ix_3_2, ix_4_0, ix_4_1, ix_4_2, ix_4_3, ix_5_0, ix_5_1, ix_5_2, ix_5_3, ix_5_4, ix_6_0, ix_6_1, ix_6_2, ix_6_3, ix_6_4, ix_6_5, ix_7_0, ix_7_1, ix_7_2, ix_7_3, ix_7_4, ix_7_5, ix_7_6, ix_8_0, ix_8_1, ix_8_2, ix_8_3, ix_8_4, ix_8_5, ix_8_6, ix_8_7, ix_9_0, ix_9_1, ix_9_2, ix_9_3, ix_9_4, ix_9_5, ix_9_6, ix_9_7, ix_9_8, ix_10_0, ix_10_1, ix_10_2, ix_10_3, ix_10_4, ix_10_5, ix_10_6, ix_10_7, ix_10_8, ix_10_9, ix_11_0, ix_11_1, ix_11_2, ix_11_3, ix_11_4, ix_11_5, ix_11_6, ix_11_7, ix_11_8, ix_11_9, ix_11_10, ix_12_0, ix_12_1, ix_12_2, ix_12_3, ix_12_4, ix_12_5, ix_12_6, ix_12_7, ix_12_8, ix_12_9, ix_12_10, ix_12_11, isT_tuple_non, isT_tuple_bl, isT_tuple_int, isT_tuple_str, isT_tuple_tup, isT_tuple_lst, isT_int_non, isT_int_bl, isT_int_int, isT_int_str, isT_int_tup, isT_int_lst, isT_bool_non, isT_bool_bl, isT_bool_int, isT_bool_str, isT_bool_tup, isT_bool_lst, isT_str_non, isT_str_bl, isT_str_int, isT_str_str, isT_str_tup, isT_str_lst, isT_list_non, isT_list_bl, isT_list_int, isT_list_str, isT_list_tup, isT_list_lst, isN_non, isN_bl, isN_int, isN_str, isN_tup, isN_lst, at_ints, sz_iff, big_iff, div_iff, mod_iff, mul_iff, mulW_iff, divW_iff, pow_iff, List.getElem?_cons_succ, List.getElem?_cons_zero, List.set_cons_zero, List.set_cons_succ, List.cons_append, List.nil_append, List.replicate, Option.map_some, Option.bind_some, decide_eq_true_eq, decide_eq_false_iff_not, Option.some.injEq, exists_eq_left', Bool.not_eq_true', Bool.not_eq_false', Bool.not_true, Bool.not_false, Int.not_lt, Int.not_le, true_and, and_true, if_true, List.length_cons, List.length_nil, List.map_cons, List.map_nil, true_imp_iff, false_imp_iff, imp_self, imp_true_iff, not_true_eq_false, not_false_eq_true, List.length_map, Bool.false_eq_true, if_false, Bool.true_eq_false, reduceCtorEq, nos, backs, Sl.keep, decide_true, decide_false, ilist_map, O.lf, List.contains_cons, List.contains_nil, Bool.and_eq_true, beq_self_eq_true, Bool.or_false, Bool.or_true, Bool.true_or, Bool.false_or, and_self, if_pos, gAt_some, ds_fz, Nat.reduceBEq, Nat.reduceEqDiff, ite_self, rangeD_len, numbered_len, Int.toNat_natCast, Nat.reduceAdd, Int.reduceMod, Int.reduceDiv, Int.reduceLT, Int.reduceLE, Int.reduceNeg, Int.reduceMul, Int.reduceAdd, Int.reduceSub, Int.reducePow, Nat.reduceAdd, Nat.reduceLT, Nat.reduceLeDiff, Int.reduceEq, true_or, or_true, Int.reduceToNat, Int.toNat_zero, Int.toNat_one, List.length_set, List.length_append, List.length_singleton, Int.reduceAbs, keyD, take_map_succ hk, List.map_append, backOf, itD]
    · rintro ys Γ ⟨rfl, rfl⟩
      rw [List.length_map, List.take_length]
      simp only [w_some, w_ofIf, w_ofMap, vAt_fz, w_var, w_C, k1_, w_1, k2b_, k2_, w_2, kA_, w_A, kMb_, kM_, w_M, w_aNil, kaCb_, kaC_, w_aCons, w_oNo, koAt_i, w_oAt, kSlc_, kSlb_, kSl_, w_Sl, ktB_, w_tB, bl_bl, ktT_, w_tTr, ktAnd_, w_tAnd, ktOr_, w_tOr, ktNot_, w_tNot, w_tYes, kIf_, w_If, kAnd_b, kOr_b, w_And, w_Or, ktL_, kbL_, kbF_, lentT_o, lentT_f, lentB_o, lentB_f, w_tBor, w_Bor, flat_int, flat_bl, flat_str, flat_non, kS_nx, kS_bk, kS_ct, kS_rt, w_Seq, kJ_s, w_J, w_Nx, w_Bk, w_Ct, kSet_, w_Set, kAugb_, kAugc_, kAug_, w_Aug, kParb_, kPar_, w_Par, gAt_some, kAsg_, w_Asg, kDrop_, w_Drop, kRet_, w_Ret, w_RetN, kIfS_, w_IfS, kApp_, kApp2_, appAt_, w_App, kPut_, putAt_, kPut2_, kPut3_, w_Put, w_Frz, frz_eq, frz1_ow, frz1_fz, kSetO_, w_SetO, kUp_, w_Up, kO_, w_O, dAt_, kFz_, w_Fz, rAt_ow, kRetO_, w_RetO, fEnd_rt, fEnd_nx, w_Fn, w_noEx, w_arNil, karb_, kar_, w_arCons, kasb_, kas_, w_arSlot, callAt_, kBack_, kCall_, w_Call, pull_nil, pull_fz, pull_sl, pull1_ow, push_nil, push_fz, push_sl, push1_ow, outs_nil, outs_f, outs_o, gN_ap, gTp_ap, gsNil_ap, gsCons_ap, kFor_, w_For, kiR_, w_iR, kiS_l, kiS_t, kiE_l, kiE_t, kiC_s, w_iC, w_iS, w_iE, kRnd_nx, kRnd_ct, kRnd_bk, kRnd_rt, kLcB_, kLcBO_, kLc_, kLcO_, w_Lc, w_LcO, kLcT_, kLcE_, v_add, v_sub, v_mul, v_div, v_mod, v_pow, v_ltA, v_leA, v_gtA, v_geA, v_eqA, v_neA, v_eqAs, v_eqAb, v_plusI, v_max2i, v_min2i, v_one, v_lenL, v_lenT, v_intI, v_tupL, v_tupT, v_lstL, v_lstT, v_sumL, v_sumT, v_maxL, v_minL, u_isN, u_notN, v_isT, v_not, u_neg, v_slL, v_slT, v_ixL, v_ixT, v_r1, v_r2, v_mulW, v_divW, v_gcdI, v_absI, v_sumR, v_foLstT, v_foLstL, v_foLst, v_tupOf, v_lstOf, o_fz, o_ol, o_nil, o_cons, at0, at1, at2, at3, at4, at5, at6, at7, ix_1_0, ix_2_0, ix_2_1, ix_3_0, ix_3_1, ix_3_2, ix_4_0, ix_4_1, ix_4_2, ix_4_3, ix_5_0, ix_5_1, ix_5_2, ix_5_3, ix_5_4, ix_6_0, ix_6_1, ix_6_2, ix_6_3, ix_6_4, ix_6_5, ix_7_0, ix_7_1, ix_7_2, ix_7_3, ix_7_4, ix_7_5, ix_7_6, ix_8_0, ix_8_1, ix_8_2, ix_8_3, ix_8_4, ix_8_5, ix_8_6, ix_8_7, ix_9_0, ix_9_1, ix_9_2, ix_9_3, ix_9_4, ix_9_5, ix_9_6, ix_9_7, ix_9_8, ix_10_0, ix_10_1, ix_10_2, ix_10_3, ix_10_4, ix_10_5, ix_10_6, ix_10_7, ix_10_8, ix_10_9, ix_11_0, ix_11_1, ix_11_2, ix_11_3, ix_11_4, ix_11_5, ix_11_6, ix_11_7, ix_11_8, ix_11_9, ix_11_10, ix_12_0, ix_12_1, ix_12_2, ix_12_3, ix_12_4, ix_12_5, ix_12_6, ix_12_7, ix_12_8, ix_12_9, ix_12_10, ix_12_11, isT_tuple_non, isT_tuple_bl, isT_tuple_int, isT_tuple_str, isT_tuple_tup, isT_tuple_lst, isT_int_non, isT_int_bl, isT_int_int, isT_int_str, isT_int_tup, isT_int_lst, isT_bool_non, isT_bool_bl, isT_bool_int, isT_bool_str, isT_bool_tup, isT_bool_lst, isT_str_non, isT_str_bl, isT_str_int, isT_str_str, isT_str_tup, isT_str_lst, isT_list_non, isT_list_bl, isT_list_int, isT_list_str, isT_list_tup, isT_list_lst, isN_non, isN_bl, isN_int, isN_str, isN_tup, isN_lst, at_ints, sz_iff, big_iff, div_iff, mod_iff, mul_iff, mulW_iff, divW_iff, pow_iff, List.getElem?_cons_succ, List.getElem?_cons_zero, List.set_cons_zero, List.set_cons_succ, List.cons_append, List.nil_append, List.replicate, Option.map_some, Option.bind_some, decide_eq_true_eq, decide_eq_false_iff_not, Option.some.injEq, exists_eq_left', Bool.not_eq_true', Bool.not_eq_false', Bool.not_true, Bool.not_false, Int.not_lt, Int.not_le, true_and, and_true, if_true, List.length_cons, List.length_nil, List.map_cons, List.map_nil, true_imp_iff, false_imp_iff, imp_self, imp_true_iff, not_true_eq_false, not_false_eq_true, List.length_map, Bool.false_eq_true, if_false, Bool.true_eq_false, reduceCtorEq, nos, backs, Sl.keep, decide_true, decide_false, ilist_map, O.lf, List.contains_cons, List.contains_nil, Bool.and_eq_true, beq_self_eq_true, Bool.or_false, Bool.or_true, Bool.true_or, Bool.false_or, and_self, if_pos, gAt_some, ds_fz, Nat.reduceBEq, Nat.reduceEqDiff, ite_self, rangeD_len, numbered_len, Int.toNat_natCast, Nat.reduceAdd, Int.reduceMod, Int.reduceDiv, Int.reduceLT, Int.reduceLE, Int.reduceNeg, Int.reduceMul, Int.reduceAdd, Int.reduceSub, Int.reducePow, Nat.reduceAdd, Nat.reduceLT, Nat.reduceLeDiff, Int.reduceEq, true_or, or_true, Int.reduceToNat, Int.toNat_zero, Int.toNat_one, List.length_set, List.length_append, List.length_singleton, Int.reduceAbs]

def pre (fs : List (Str × Int)) (k : Nat) : Int := ((fs.take k).map (·.2)).sum
/-- the shortest beginning that reaches a percent -/
def Short (fs : List (Str × Int)) (percent : Int) (K : Nat) : Prop := K ≤ fs.length ∧ (∀ j, j < K → 100 * pre fs j < percent * pre fs fs.length) ∧ (K < fs.length → percent * pre fs fs.length ≤ 100 * pre fs K)
theorem short_uniq {fs : List (Str × Int)} {percent : Int} {K L : Nat} (h : Short fs percent K) (h' : Short fs percent L) : K = L := by
  obtain ⟨a1, a2, a3⟩ := h
  obtain ⟨b1, b2, b3⟩ := h'
  rcases Nat.lt_trichotomy K L with q | q | q
  · have := b2 K q; have := a3 (by omega); omega
  · exact q
  · have := a2 L q; have := b3 (by omega); omega

theorem sum_app : ∀ (xs ys : List Int), (xs ++ ys).sum = xs.sum + ys.sum
  | [], ys => by simp
  | x :: xs, ys => by
    have := sum_app xs ys
    simp only [List.cons_append, List.sum_cons]
    omega
theorem pre_succ {fs : List (Str × Int)} {k : Nat} (h : k < fs.length) : pre fs (k + 1) = pre fs k + fs[k].2 := by
  unfold pre
  rw [take_map_succ h, sum_app]
  simp
theorem shortest_ok {fs : List (Str × Int)} {percent : Int} (hl : fs.length ≤ 1000000) (h0 : 0 ≤ percent) (h1 : percent ≤ 100) : ∃ K : Nat, m_x_law_shortest [.lst (fs.map itD), .int percent] = some (.int K) ∧ Short fs percent K := by
  suffices h : ∃ d, m_x_law_shortest [.lst (fs.map itD), .int percent] = some d ∧ ∃ K : Nat, d = .int K ∧ Short fs percent K by
    obtain ⟨d, e, K, rfl, hK⟩ := h
    exact ⟨K, e, hK⟩
  refine w_toPE rfl ?_
  unfold δ_x_law_shortest
  simp only [w_some, w_ofIf, w_ofMap, vAt_fz, w_var, w_C, k1_, w_1, k2b_, k2_, w_2, kA_, w_A, kMb_, kM_, w_M, w_aNil, kaCb_, kaC_, w_aCons, w_oNo, koAt_i, w_oAt, kSlc_, kSlb_, kSl_, w_Sl, ktB_, w_tB, bl_bl, ktT_, w_tTr, ktAnd_, w_tAnd, ktOr_, w_tOr, ktNot_, w_tNot, w_tYes, kIf_, w_If, kAnd_b, kOr_b, w_And, w_Or, ktL_, kbL_, kbF_, lentT_o, lentT_f, lentB_o, lentB_f, w_tBor, w_Bor, flat_int, flat_bl, flat_str, flat_non, kS_nx, kS_bk, kS_ct, kS_rt, w_Seq, kJ_s, w_J, w_Nx, w_Bk, w_Ct, kSet_, w_Set, kAugb_, kAugc_, kAug_, w_Aug, kParb_, kPar_, w_Par, gAt_some, kAsg_, w_Asg, kDrop_, w_Drop, kRet_, w_Ret, w_RetN, kIfS_, w_IfS, kApp_, kApp2_, appAt_, w_App, kPut_, putAt_, kPut2_, kPut3_, w_Put, w_Frz, frz_eq, frz1_ow, frz1_fz, kSetO_, w_SetO, kUp_, w_Up, kO_, w_O, dAt_, kFz_, w_Fz, rAt_ow, kRetO_, w_RetO, fEnd_rt, fEnd_nx, w_Fn, w_noEx, w_arNil, karb_, kar_, w_arCons, kasb_, kas_, w_arSlot, callAt_, kBack_, kCall_, w_Call, pull_nil, pull_fz, pull_sl, pull1_ow, push_nil, push_fz, push_sl, push1_ow, outs_nil, outs_f, outs_o, gN_ap, gTp_ap, gsNil_ap, gsCons_ap, kFor_, w_For, kiR_, w_iR, kiS_l, kiS_t, kiE_l, kiE_t, kiC_s, w_iC, w_iS, w_iE, kRnd_nx, kRnd_ct, kRnd_bk, kRnd_rt, kLcB_, kLcBO_, kLc_, kLcO_, w_Lc, w_LcO, kLcT_, kLcE_, v_add, v_sub, v_mul, v_div, v_mod, v_pow, v_ltA, v_leA, v_gtA, v_geA, v_eqA, v_neA, v_eqAs, v_eqAb, v_plusI, v_max2i, v_min2i, v_one, v_lenL, v_lenT, v_intI, v_tupL, v_tupT, v_lstL, v_lstT, v_sumL, v_sumT, v_maxL, v_minL, u_isN, u_notN, v_isT, v_not, u_neg, v_slL, v_slT, v_ixL, v_ixT, v_r1, v_r2, v_mulW, v_divW, v_gcdI, v_absI, v_sumR, v_foLstT, v_foLstL, v_foLst, v_tupOf, v_lstOf, o_fz, o_ol, o_nil, o_cons, at0, at1, at2, at3, at4, at5, at6, at7, ix_1_0, ix_2_0, ix_2_1, ix_3_0, ix_3_1, ix_3_2, ix_4_0, ix_4_1, ix_4_2, ix_4_3, ix_5_0, ix_5_1, ix_5_2, ix_5_3, ix_5_4, ix_6_0, ix_6_1, ix_6_2, ix_6_3, ix_6_4, ix_6_5, ix_7_0, ix_7_1, ix_7_2, ix_7_3, ix_7_4, ix_7_5, ix_7_6, ix_8_0, ix_8_1, ix_8_2, ix_8_3, ix_8_4, ix_8_5, ix_8_6, ix_8_7, ix_9_0, ix_9_1, ix_9_2, ix_9_3, ix_9_4, ix_9_5, ix_9_6, ix_9_7, ix_9_8, ix_10_0, ix_10_1, ix_10_2, ix_10_3, ix_10_4, ix_10_5, ix_10_6, ix_10_7, ix_10_8, ix_10_9, ix_11_0, ix_11_1, ix_11_2, ix_11_3, ix_11_4, ix_11_5, ix_11_6, ix_11_7, ix_11_8, ix_11_9, ix_11_10, ix_12_0, ix_12_1, ix_12_2, ix_12_3, ix_12_4, ix_12_5, ix_12_6, ix_12_7, ix_12_8, ix_12_9, ix_12_10, ix_12_11, isT_tuple_non, isT_tuple_bl, isT_tuple_int, isT_tuple_str, isT_tuple_tup, isT_tuple_lst, isT_int_non, isT_int_bl, isT_int_int, isT_int_str, isT_int_tup, isT_int_lst, isT_bool_non, isT_bool_bl, isT_bool_int, isT_bool_str, isT_bool_tup, isT_bool_lst, isT_str_non, isT_str_bl, isT_str_int, isT_str_str, isT_str_tup, isT_str_lst, isT_list_non, isT_list_bl, isT_list_int, isT_list_str, isT_list_tup, isT_list_lst, isN_non, isN_bl, isN_int, isN_str, isN_tup, isN_lst, at_ints, sz_iff, big_iff, div_iff, mod_iff, mul_iff, mulW_iff, divW_iff, pow_iff, List.getElem?_cons_succ, List.getElem?_cons_zero, List.set_cons_zero, List.set_cons_succ, List.cons_append, List.nil_append, List.replicate, Option.map_some, Option.bind_some, decide_eq_true_eq, decide_eq_false_iff_not, Option.some.injEq, exists_eq_left', Bool.not_eq_true', Bool.not_eq_false', Bool.not_true, Bool.not_false, Int.not_lt, Int.not_le, true_and, and_true, if_true, List.length_cons, List.length_nil, List.map_cons, List.map_nil, true_imp_iff, false_imp_iff, imp_self, imp_true_iff, not_true_eq_false, not_false_eq_true, List.length_map, Bool.false_eq_true, if_false, Bool.true_eq_false, reduceCtorEq, nos, backs, Sl.keep, decide_true, decide_false, ilist_map, O.lf, List.contains_cons, List.contains_nil, Bool.and_eq_true, beq_self_eq_true, Bool.or_false, Bool.or_true, Bool.true_or, Bool.false_or, and_self, if_pos, gAt_some, ds_fz, Nat.reduceBEq, Nat.reduceEqDiff, ite_self, rangeD_len, numbered_len, Int.toNat_natCast, Nat.reduceAdd, Int.reduceMod, Int.reduceDiv, Int.reduceLT, Int.reduceLE, Int.reduceNeg, Int.reduceMul, Int.reduceAdd, Int.reduceSub, Int.reducePow, Nat.reduceAdd, Nat.reduceLT, Nat.reduceLeDiff, Int.reduceEq, true_or, or_true, Int.reduceToNat, Int.toNat_zero, Int.toNat_one, List.length_set, List.length_append, List.length_singleton, Int.reduceAbs]
  refine ⟨by omega, ?_⟩
  refine w_lcK (fun k ys Γ => ys = ((fs.take k).map (·.2)).map D.int ∧ Γ = [Sl.fz (.lst (fs.map itD)), .fz (.int percent), .no, .no, .no, .no, .no]) ⟨rfl, rfl⟩ ?_ ?_
  · rintro k d ys Γ hd ⟨rfl, rfl⟩
    have hk : k < fs.length := by simpa using (List.getElem?_eq_some_iff.mp hd).1
    rw [List.getElem?_map, List.getElem?_eq_getElem hk] at hd
    cases hd
    simp only [w_some, w_ofIf, w_ofMap, vAt_fz, w_var, w_C, k1_, w_1, k2b_, k2_, w_2, kA_, w_A, kMb_, kM_, w_M, w_aNil, kaCb_, kaC_, w_aCons, w_oNo, koAt_i, w_oAt, kSlc_, kSlb_, kSl_, w_Sl, ktB_, w_tB, bl_bl, ktT_, w_tTr, ktAnd_, w_tAnd, ktOr_, w_tOr, ktNot_, w_tNot, w_tYes, kIf_, w_If, kAnd_b, kOr_b, w_And, w_Or, ktL_, kbL_, kbF_, lentT_o, lentT_f, lentB_o, lentB_f, w_tBor, w_Bor, flat_int, flat_bl, flat_str, flat_non, kS_nx, kS_bk, kS_ct, kS_rt, w_Seq, kJ_s, w_J, w_Nx, w_Bk, w_Ct, kSet_, w_Set, kAugb_, kAugc_, kAug_, w_Aug, kParb_, kPar_, w_Par, gAt_some, kAsg_, w_Asg, kDrop_, w_Drop, kRet_, w_Ret, w_RetN, kIfS_, w_IfS, kApp_, kApp2_, appAt_, w_App, kPut_, putAt_, kPut2_, kPut3_, w_Put, w_Frz, frz_eq, frz1_ow, frz1_fz, kSetO_, w_SetO, kUp_, w_Up, kO_, w_O, dAt_, kFz_, w_Fz, rAt_ow, kRetO_, w_RetO, fEnd_rt, fEnd_nx, w_Fn, w_noEx, w_arNil, karb_, kar_, w_arCons, kasb_, kas_, w_arSlot, callAt_, kBack_, kCall_, w_Call, pull_nil, pull_fz, pull_sl, pull1_ow, push_nil, push_fz, push_sl, push1_ow, outs_nil, outs_f, outs_o, gN_ap, gTp_ap, gsNil_ap, gsCons_ap, kFor_, w_For, kiR_, w_iR, kiS_l, kiS_t, kiE_l, kiE_t, kiC_s, w_iC, w_iS, w_iE, kRnd_nx, kRnd_ct, kRnd_bk, kRnd_rt, kLcB_, kLcBO_, kLc_, kLcO_, w_Lc, w_LcO, kLcT_, kLcE_, v_add, v_sub, v_mul, v_div, v_mod, v_pow, v_ltA, v_leA, v_gtA, v_geA, v_eqA, v_neA, v_eqAs, v_eqAb, v_plusI, v_max2i, v_min2i, v_one, v_lenL, v_lenT, v_intI, v_tupL, v_tupT, v_lstL, v_lstT, v_sumL, v_sumT, v_maxL, v_minL, u_isN, u_notN, v_isT, v_not, u_neg, v_slL, v_slT, v_ixL, v_ixT, v_r1, v_r2, v_mulW, v_divW, v_gcdI, v_absI, v_sumR, v_foLstT, v_foLstL, v_foLst, v_tupOf, v_lstOf, o_fz, o_ol, o_nil, o_cons, at0, at1, at2, at3, at4, at5, at6, at7, ix_1_0, ix_2_0, ix_2_1, ix_3_0, ix_3_1, ix_3_2, ix_4_0, ix_4_1, ix_4_2, ix_4_3, ix_5_0, ix_5_1, ix_5_2, ix_5_3, ix_5_4, ix_6_0, ix_6_1, ix_6_2, ix_6_3, ix_6_4, ix_6_5, ix_7_0, ix_7_1, ix_7_2, ix_7_3, ix_7_4, ix_7_5, ix_7_6, ix_8_0, ix_8_1, ix_8_2, ix_8_3, ix_8_4, ix_8_5, ix_8_6, ix_8_7, ix_9_0, ix_9_1, ix_9_2, ix_9_3, ix_9_4, ix_9_5, ix_9_6, ix_9_7, ix_9_8, ix_10_0, ix_10_1, ix_10_2, ix_10_3, ix_10_4, ix_10_5, ix_10_6, ix_10_7, ix_10_8, ix_10_9, ix_11_0, ix_11_1, ix_11_2, ix_11_3, ix_11_4, ix_11_5, ix_11_6, ix_11_7, ix_11_8, ix_11_9, ix_11_10, ix_12_0, ix_12_1, ix_12_2, ix_12_3, ix_12_4, ix_12_5, ix_12_6, ix_12_7, ix_12_8, ix_12_9, ix_12_10, ix_12_11, isT_tuple_non, isT_tuple_bl, isT_tuple_int, isT_tuple_str, isT_tuple_tup, isT_tuple_lst, isT_int_non, isT_int_bl, isT_int_int, isT_int_str, isT_int_tup, isT_int_lst, isT_bool_non, isT_bool_bl, isT_bool_int, isT_bool_str, isT_bool_tup, isT_bool_lst, isT_str_non, isT_str_bl, isT_str_int, isT_str_str, isT_str_tup, isT_str_lst, isT_list_non, isT_list_bl, isT_list_int, isT_list_str, isT_list_tup, isT_list_lst, isN_non, isN_bl, isN_int, isN_str, isN_tup, isN_lst, at_ints, sz_iff, big_iff, div_iff, mod_iff, mul_iff, mulW_iff, divW_iff, pow_iff, List.getElem?_cons_succ, List.getElem?_cons_zero, List.set_cons_zero, List.set_cons_succ, List.cons_append, List.nil_append, List.replicate, Option.map_some, Option.bind_some, decide_eq_true_eq, decide_eq_false_iff_not, Option.some.injEq, exists_eq_left', Bool.not_eq_true', Bool.not_eq_false', Bool.not_true, Bool.not_false, Int.not_lt, Int.not_le, true_and, and_true, if_true, List.length_cons, List.length_nil, List.map_cons, List.map_nil, true_imp_iff, false_imp_iff, imp_self, imp_true_iff, not_true_eq_false, not_false_eq_true, List.length_map, Bool.false_eq_true, if_false, Bool.true_eq_false, reduceCtorEq, nos, backs, Sl.keep, decide_true, decide_false, ilist_map, O.lf, List.contains_cons, List.contains_nil, Bool.and_eq_true, beq_self_eq_true, Bool.or_false, Bool.or_true, Bool.true_or, Bool.false_or, and_self, if_pos, gAt_some, ds_fz, Nat.reduceBEq, Nat.reduceEqDiff, ite_self, rangeD_len, numbered_len, Int.toNat_natCast, Nat.reduceAdd, Int.reduceMod, Int.reduceDiv, Int.reduceLT, Int.reduceLE, Int.reduceNeg, Int.reduceMul, Int.reduceAdd, Int.reduceSub, Int.reducePow, Nat.reduceAdd, Nat.reduceLT, Nat.reduceLeDiff, Int.reduceEq, true_or, or_true, Int.reduceToNat, Int.toNat_zero, Int.toNat_one, List.length_set, List.length_append, List.length_singleton, Int.reduceAbs, itD, take_map_succ hk, List.map_append]
  · rintro ys Γ ⟨rfl, rfl⟩
    rw [List.length_map]
    have eT : ((fs.take fs.length).map (·.2)).sum = pre fs fs.length := rfl
    simp only [w_some, w_ofIf, w_ofMap, vAt_fz, w_var, w_C, k1_, w_1, k2b_, k2_, w_2, kA_, w_A, kMb_, kM_, w_M, w_aNil, kaCb_, kaC_, w_aCons, w_oNo, koAt_i, w_oAt, kSlc_, kSlb_, kSl_, w_Sl, ktB_, w_tB, bl_bl, ktT_, w_tTr, ktAnd_, w_tAnd, ktOr_, w_tOr, ktNot_, w_tNot, w_tYes, kIf_, w_If, kAnd_b, kOr_b, w_And, w_Or, ktL_, kbL_, kbF_, lentT_o, lentT_f, lentB_o, lentB_f, w_tBor, w_Bor, flat_int, flat_bl, flat_str, flat_non, kS_nx, kS_bk, kS_ct, kS_rt, w_Seq, kJ_s, w_J, w_Nx, w_Bk, w_Ct, kSet_, w_Set, kAugb_, kAugc_, kAug_, w_Aug, kParb_, kPar_, w_Par, gAt_some, kAsg_, w_Asg, kDrop_, w_Drop, kRet_, w_Ret, w_RetN, kIfS_, w_IfS, kApp_, kApp2_, appAt_, w_App, kPut_, putAt_, kPut2_, kPut3_, w_Put, w_Frz, frz_eq, frz1_ow, frz1_fz, kSetO_, w_SetO, kUp_, w_Up, kO_, w_O, dAt_, kFz_, w_Fz, rAt_ow, kRetO_, w_RetO, fEnd_rt, fEnd_nx, w_Fn, w_noEx, w_arNil, karb_, kar_, w_arCons, kasb_, kas_, w_arSlot, callAt_, kBack_, kCall_, w_Call, pull_nil, pull_fz, pull_sl, pull1_ow, push_nil, push_fz, push_sl, push1_ow, outs_nil, outs_f, outs_o, gN_ap, gTp_ap, gsNil_ap, gsCons_ap, kFor_, w_For, kiR_, w_iR, kiS_l, kiS_t, kiE_l, kiE_t, kiC_s, w_iC, w_iS, w_iE, kRnd_nx, kRnd_ct, kRnd_bk, kRnd_rt, kLcB_, kLcBO_, kLc_, kLcO_, w_Lc, w_LcO, kLcT_, kLcE_, v_add, v_sub, v_mul, v_div, v_mod, v_pow, v_ltA, v_leA, v_gtA, v_geA, v_eqA, v_neA, v_eqAs, v_eqAb, v_plusI, v_max2i, v_min2i, v_one, v_lenL, v_lenT, v_intI, v_tupL, v_tupT, v_lstL, v_lstT, v_sumL, v_sumT, v_maxL, v_minL, u_isN, u_notN, v_isT, v_not, u_neg, v_slL, v_slT, v_ixL, v_ixT, v_r1, v_r2, v_mulW, v_divW, v_gcdI, v_absI, v_sumR, v_foLstT, v_foLstL, v_foLst, v_tupOf, v_lstOf, o_fz, o_ol, o_nil, o_cons, at0, at1, at2, at3, at4, at5, at6, at7, ix_1_0, ix_2_0, ix_2_1, ix_3_0, ix_3_1, ix_3_2, ix_4_0, ix_4_1, ix_4_2, ix_4_3, ix_5_0, ix_5_1, ix_5_2, ix_5_3, ix_5_4, ix_6_0, ix_6_1, ix_6_2, ix_6_3, ix_6_4, ix_6_5, ix_7_0, ix_7_1, ix_7_2, ix_7_3, ix_7_4, ix_7_5, ix_7_6, ix_8_0, ix_8_1, ix_8_2, ix_8_3, ix_8_4, ix_8_5, ix_8_6, ix_8_7, ix_9_0, ix_9_1, ix_9_2, ix_9_3, ix_9_4, ix_9_5, ix_9_6, ix_9_7, ix_9_8, ix_10_0, ix_10_1, ix_10_2, ix_10_3, ix_10_4, ix_10_5, ix_10_6, ix_10_7, ix_10_8, ix_10_9, ix_11_0, ix_11_1, ix_11_2, ix_11_3, ix_11_4, ix_11_5, ix_11_6, ix_11_7, ix_11_8, ix_11_9, ix_11_10, ix_12_0, ix_12_1, ix_12_2, ix_12_3, ix_12_4, ix_12_5, ix_12_6, ix_12_7, ix_12_8, ix_12_9, ix_12_10, ix_12_11, isT_tuple_non, isT_tuple_bl, isT_tuple_int, isT_tuple_str, isT_tuple_tup, isT_tuple_lst, isT_int_non, isT_int_bl, isT_int_int, isT_int_str, isT_int_tup, isT_int_lst, isT_bool_non, isT_bool_bl, isT_bool_int, isT_bool_str, isT_bool_tup, isT_bool_lst, isT_str_non, isT_str_bl, isT_str_int, isT_str_str, isT_str_tup, isT_str_lst, isT_list_non, isT_list_bl, isT_list_int, isT_list_str, isT_list_tup, isT_list_lst, isN_non, isN_bl, isN_int, isN_str, isN_tup, isN_lst, at_ints, sz_iff, big_iff, div_iff, mod_iff, mul_iff, mulW_iff, divW_iff, pow_iff, List.getElem?_cons_succ, List.getElem?_cons_zero, List.set_cons_zero, List.set_cons_succ, List.cons_append, List.nil_append, List.replicate, Option.map_some, Option.bind_some, decide_eq_true_eq, decide_eq_false_iff_not, Option.some.injEq, exists_eq_left', Bool.not_eq_true', Bool.not_eq_false', Bool.not_true, Bool.not_false, Int.not_lt, Int.not_le, true_and, and_true, if_true, List.length_cons, List.length_nil, List.map_cons, List.map_nil, true_imp_iff, false_imp_iff, imp_self, imp_true_iff, not_true_eq_false, not_false_eq_true, List.length_map, Bool.false_eq_true, if_false, Bool.true_eq_false, reduceCtorEq, nos, backs, Sl.keep, decide_true, decide_false, ilist_map, O.lf, List.contains_cons, List.contains_nil, Bool.and_eq_true, beq_self_eq_true, Bool.or_false, Bool.or_true, Bool.true_or, Bool.false_or, and_self, if_pos, gAt_some, ds_fz, Nat.reduceBEq, Nat.reduceEqDiff, ite_self, rangeD_len, numbered_len, Int.toNat_natCast, Nat.reduceAdd, Int.reduceMod, Int.reduceDiv, Int.reduceLT, Int.reduceLE, Int.reduceNeg, Int.reduceMul, Int.reduceAdd, Int.reduceSub, Int.reducePow, Nat.reduceAdd, Nat.reduceLT, Nat.reduceLeDiff, Int.reduceEq, true_or, or_true, Int.reduceToNat, Int.toNat_zero, Int.toNat_one, List.length_set, List.length_append, List.length_singleton, Int.reduceAbs, eT]
    refine ⟨by omega, ?_⟩
    refine w_loopN (fun k Γ => ∃ s4, (∀ j, j < k → 100 * pre fs j < percent * pre fs fs.length) ∧ Γ = [Sl.fz (.lst (fs.map itD)), .fz (.int percent), .fz (.int (pre fs fs.length)), .fz (.int (pre fs k)), s4, .no, .no]) ⟨_, fun j hj => absurd hj (Nat.not_lt_zero _), rfl⟩ ?_ ?_
    · rintro k d Γ hd ⟨s4, hj, rfl⟩
      obtain ⟨hk, rfl⟩ := rangeD_get0 hd
      have e1 : atI (fs.map itD) (k : Int) = some (itD fs[k]) := DL.atI_nat (by rw [List.getElem?_map, List.getElem?_eq_getElem hk]; rfl)
      simp only [w_some, w_ofIf, w_ofMap, vAt_fz, w_var, w_C, k1_, w_1, k2b_, k2_, w_2, kA_, w_A, kMb_, kM_, w_M, w_aNil, kaCb_, kaC_, w_aCons, w_oNo, koAt_i, w_oAt, kSlc_, kSlb_, kSl_, w_Sl, ktB_, w_tB, bl_bl, ktT_, w_tTr, ktAnd_, w_tAnd, ktOr_, w_tOr, ktNot_, w_tNot, w_tYes, kIf_, w_If, kAnd_b, kOr_b, w_And, w_Or, ktL_, kbL_, kbF_, lentT_o, lentT_f, lentB_o, lentB_f, w_tBor, w_Bor, flat_int, flat_bl, flat_str, flat_non, kS_nx, kS_bk, kS_ct, kS_rt, w_Seq, kJ_s, w_J, w_Nx, w_Bk, w_Ct, kSet_, w_Set, kAugb_, kAugc_, kAug_, w_Aug, kParb_, kPar_, w_Par, gAt_some, kAsg_, w_Asg, kDrop_, w_Drop, kRet_, w_Ret, w_RetN, kIfS_, w_IfS, kApp_, kApp2_, appAt_, w_App, kPut_, putAt_, kPut2_, kPut3_, w_Put, w_Frz, frz_eq, frz1_ow, frz1_fz, kSetO_, w_SetO, kUp_, w_Up, kO_, w_O, dAt_, kFz_, w_Fz, rAt_ow, kRetO_, w_RetO, fEnd_rt, fEnd_nx, w_Fn, w_noEx, w_arNil, karb_, kar_, w_arCons, kasb_, kas_, w_arSlot, callAt_, kBack_, kCall_, w_Call, pull_nil, pull_fz, pull_sl, pull1_ow, push_nil, push_fz, push_sl, push1_ow, outs_nil, outs_f, outs_o, gN_ap, gTp_ap, gsNil_ap, gsCons_ap, kFor_, w_For, kiR_, w_iR, kiS_l, kiS_t, kiE_l, kiE_t, kiC_s, w_iC, w_iS, w_iE, kRnd_nx, kRnd_ct, kRnd_bk, kRnd_rt, kLcB_, kLcBO_, kLc_, kLcO_, w_Lc, w_LcO, kLcT_, kLcE_, v_add, v_sub, v_mul, v_div, v_mod, v_pow, v_ltA, v_leA, v_gtA, v_geA, v_eqA, v_neA, v_eqAs, v_eqAb, v_plusI, v_max2i, v_min2i, v_one, v_lenL, v_lenT, v_intI, v_tupL, v_tupT, v_lstL, v_lstT, v_sumL, v_sumT, v_maxL, v_minL, u_isN, u_notN, v_isT, v_not, u_neg, v_slL, v_slT, v_ixL, v_ixT, v_r1, v_r2, v_mulW, v_divW, v_gcdI, v_absI, v_sumR, v_foLstT, v_foLstL, v_foLst, v_tupOf, v_lstOf, o_fz, o_ol, o_nil, o_cons, at0, at1, at2, at3, at4, at5, at6, at7, ix_1_0, ix_2_0, ix_2_1, ix_3_0, ix_3_1, ix_3_2, ix_4_0, ix_4_1, ix_4_2, ix_4_3, ix_5_0, ix_5_1, ix_5_2, ix_5_3, ix_5_4, ix_6_0, ix_6_1, ix_6_2, ix_6_3, ix_6_4, ix_6_5, ix_7_0, ix_7_1, ix_7_2, ix_7_3, ix_7_4, ix_7_5, ix_7_6, ix_8_0, ix_8_1, ix_8_2, ix_8_3, ix_8_4, ix_8_5, ix_8_6, ix_8_7, ix_9_0, ix_9_1, ix_9_2, ix_9_3, ix_9_4, ix_9_5, ix_9_6, ix_9_7, ix_9_8, ix_10_0, ix_10_1, ix_10_2, ix_10_3, ix_10_4, ix_10_5, ix_10_6, ix_10_7, ix_10_8, ix_10_9, ix_11_0, ix_11_1, ix_11_2, ix_11_3, ix_11_4, ix_11_5, ix_11_6, ix_11_7, ix_11_8, ix_11_9, ix_11_10, ix_12_0, ix_12_1, ix_12_2, ix_12_3, ix_12_4, ix_12_5, ix_12_6, ix_12_7, ix_12_8, ix_12_9, ix_12_10, ix_12_11, isT_tuple_non, isT_tuple_bl, isT_tuple_int, isT_tuple_str, isT_tuple_tup, isT_tuple_lst, isT_int_non, isT_int_bl, isT_int_int, isT_int_str, isT_int_tup, isT_int_lst, isT_bool_non, isT_bool_bl, isT_bool_int, isT_bool_str, isT_bool_tup, isT_bool_lst, isT_str_non, isT_str_bl, isT_str_int, isT_str_str, isT_str_tup, isT_str_lst, isT_list_non, isT_list_bl, isT_list_int, isT_list_str, isT_list_tup, isT_list_lst, isN_non, isN_bl, isN_int, isN_str, isN_tup, isN_lst, at_ints, sz_iff, big_iff, div_iff, mod_iff, mul_iff, mulW_iff, divW_iff, pow_iff, List.getElem?_cons_succ, List.getElem?_cons_zero, List.set_cons_zero, List.set_cons_succ, List.cons_append, List.nil_append, List.replicate, Option.map_some, Option.bind_some, decide_eq_true_eq, decide_eq_false_iff_not, Option.some.injEq, exists_eq_left', Bool.not_eq_true', Bool.not_eq_false', Bool.not_true, Bool.not_false, Int.not_lt, Int.not_le, true_and, and_true, if_true, List.length_cons, List.length_nil, List.map_cons, List.map_nil, true_imp_iff, false_imp_iff, imp_self, imp_true_iff, not_true_eq_false, not_false_eq_true, List.length_map, Bool.false_eq_true, if_false, Bool.true_eq_false, reduceCtorEq, nos, backs, Sl.keep, decide_true, decide_false, ilist_map, O.lf, List.contains_cons, List.contains_nil, Bool.and_eq_true, beq_self_eq_true, Bool.or_false, Bool.or_true, Bool.true_or, Bool.false_or, and_self, if_pos, gAt_some, ds_fz, Nat.reduceBEq, Nat.reduceEqDiff, ite_self, rangeD_len, numbered_len, Int.toNat_natCast, Nat.reduceAdd, Int.reduceMod, Int.reduceDiv, Int.reduceLT, Int.reduceLE, Int.reduceNeg, Int.reduceMul, Int.reduceAdd, Int.reduceSub, Int.reducePow, Nat.reduceAdd, Nat.reduceLT, Nat.reduceLeDiff, Int.reduceEq, true_or, or_true, Int.reduceToNat, Int.toNat_zero, Int.toNat_one, List.length_set, List.length_append, List.length_singleton, Int.reduceAbs, e1, itD, ← pre_succ hk]
      refine ⟨.inl ⟨by omega, by omega⟩, fun hr => ⟨_, rfl, k, rfl, by omega, hj, fun _ => hr⟩, fun hr => ⟨_, fun j hj2 => ?_, rfl⟩⟩
      by_cases q : j = k
      · subst q; omega
      · exact hj j (by omega)
    · rintro Γ ⟨s4, hj, rfl⟩
      rw [rangeD_len] at hj ⊢
      simp only [w_some, w_ofIf, w_ofMap, vAt_fz, w_var, w_C, k1_, w_1, k2b_, k2_, w_2, kA_, w_A, kMb_, kM_, w_M, w_aNil, kaCb_, kaC_, w_aCons, w_oNo, koAt_i, w_oAt, kSlc_, kSlb_, kSl_, w_Sl, ktB_, w_tB, bl_bl, ktT_, w_tTr, ktAnd_, w_tAnd, ktOr_, w_tOr, ktNot_, w_tNot, w_tYes, kIf_, w_If, kAnd_b, kOr_b, w_And, w_Or, ktL_, kbL_, kbF_, lentT_o, lentT_f, lentB_o, lentB_f, w_tBor, w_Bor, flat_int, flat_bl, flat_str, flat_non, kS_nx, kS_bk, kS_ct, kS_rt, w_Seq, kJ_s, w_J, w_Nx, w_Bk, w_Ct, kSet_, w_Set, kAugb_, kAugc_, kAug_, w_Aug, kParb_, kPar_, w_Par, gAt_some, kAsg_, w_Asg, kDrop_, w_Drop, kRet_, w_Ret, w_RetN, kIfS_, w_IfS, kApp_, kApp2_, appAt_, w_App, kPut_, putAt_, kPut2_, kPut3_, w_Put, w_Frz, frz_eq, frz1_ow, frz1_fz, kSetO_, w_SetO, kUp_, w_Up, kO_, w_O, dAt_, kFz_, w_Fz, rAt_ow, kRetO_, w_RetO, fEnd_rt, fEnd_nx, w_Fn, w_noEx, w_arNil, karb_, kar_, w_arCons, kasb_, kas_, w_arSlot, callAt_, kBack_, kCall_, w_Call, pull_nil, pull_fz, pull_sl, pull1_ow, push_nil, push_fz, push_sl, push1_ow, outs_nil, outs_f, outs_o, gN_ap, gTp_ap, gsNil_ap, gsCons_ap, kFor_, w_For, kiR_, w_iR, kiS_l, kiS_t, kiE_l, kiE_t, kiC_s, w_iC, w_iS, w_iE, kRnd_nx, kRnd_ct, kRnd_bk, kRnd_rt, kLcB_, kLcBO_, kLc_, kLcO_, w_Lc, w_LcO, kLcT_, kLcE_, v_add, v_sub, v_mul, v_div, v_mod, v_pow, v_ltA, v_leA, v_gtA, v_geA, v_eqA, v_neA, v_eqAs, v_eqAb, v_plusI, v_max2i, v_min2i, v_one, v_lenL, v_lenT, v_intI, v_tupL, v_tupT, v_lstL, v_lstT, v_sumL, v_sumT, v_maxL, v_minL, u_isN, u_notN, v_isT, v_not, u_neg, v_slL, v_slT, v_ixL, v_ixT, v_r1, v_r2, v_mulW, v_divW, v_gcdI, v_absI, v_sumR, v_foLstT, v_foLstL, v_foLst, v_tupOf, v_lstOf, o_fz, o_ol, o_nil, o_cons, at0, at1, at2, at3, at4, at5, at6, at7, ix_1_0, ix_2_0, ix_2_1, ix_3_0, ix_3_1, ix_3_2, ix_4_0, ix_4_1, ix_4_2, ix_4_3, ix_5_0, ix_5_1, ix_5_2, ix_5_3, ix_5_4, ix_6_0, ix_6_1, ix_6_2, ix_6_3, ix_6_4, ix_6_5, ix_7_0, ix_7_1, ix_7_2, ix_7_3, ix_7_4, ix_7_5, ix_7_6, ix_8_0, ix_8_1, ix_8_2, ix_8_3, ix_8_4, ix_8_5, ix_8_6, ix_8_7, ix_9_0, ix_9_1, ix_9_2, ix_9_3, ix_9_4, ix_9_5, ix_9_6, ix_9_7, ix_9_8, ix_10_0, ix_10_1, ix_10_2, ix_10_3, ix_10_4, ix_10_5, ix_10_6, ix_10_7, ix_10_8, ix_10_9, ix_11_0, ix_11_1, ix_11_2, ix_11_3, ix_11_4, ix_11_5, ix_11_6, ix_11_7, ix_11_8, ix_11_9, ix_11_10, ix_12_0, ix_12_1, ix_12_2, ix_12_3, ix_12_4, ix_12_5, ix_12_6, ix_12_7, ix_12_8, ix_12_9, ix_12_10, ix_12_11, isT_tuple_non, isT_tuple_bl, isT_tuple_int, isT_tuple_str, isT_tuple_tup, isT_tuple_lst, isT_int_non, isT_int_bl, isT_int_int, isT_int_str, isT_int_tup, isT_int_lst, isT_bool_non, isT_bool_bl, isT_bool_int, isT_bool_str, isT_bool_tup, isT_bool_lst, isT_str_non, isT_str_bl, isT_str_int, isT_str_str, isT_str_tup, isT_str_lst, isT_list_non, isT_list_bl, isT_list_int, isT_list_str, isT_list_tup, isT_list_lst, isN_non, isN_bl, isN_int, isN_str, isN_tup, isN_lst, at_ints, sz_iff, big_iff, div_iff, mod_iff, mul_iff, mulW_iff, divW_iff, pow_iff, List.getElem?_cons_succ, List.getElem?_cons_zero, List.set_cons_zero, List.set_cons_succ, List.cons_append, List.nil_append, List.replicate, Option.map_some, Option.bind_some, decide_eq_true_eq, decide_eq_false_iff_not, Option.some.injEq, exists_eq_left', Bool.not_eq_true', Bool.not_eq_false', Bool.not_true, Bool.not_false, Int.not_lt, Int.not_le, true_and, and_true, if_true, List.length_cons, List.length_nil, List.map_cons, List.map_nil, true_imp_iff, false_imp_iff, imp_self, imp_true_iff, not_true_eq_false, not_false_eq_true, List.length_map, Bool.false_eq_true, if_false, Bool.true_eq_false, reduceCtorEq, nos, backs, Sl.keep, decide_true, decide_false, ilist_map, O.lf, List.contains_cons, List.contains_nil, Bool.and_eq_true, beq_self_eq_true, Bool.or_false, Bool.or_true, Bool.true_or, Bool.false_or, and_self, if_pos, gAt_some, ds_fz, Nat.reduceBEq, Nat.reduceEqDiff, ite_self, rangeD_len, numbered_len, Int.toNat_natCast, Nat.reduceAdd, Int.reduceMod, Int.reduceDiv, Int.reduceLT, Int.reduceLE, Int.reduceNeg, Int.reduceMul, Int.reduceAdd, Int.reduceSub, Int.reducePow, Nat.reduceAdd, Nat.reduceLT, Nat.reduceLeDiff, Int.reduceEq, true_or, or_true, Int.reduceToNat, Int.toNat_zero, Int.toNat_one, List.length_set, List.length_append, List.length_singleton, Int.reduceAbs]
      exact ⟨_, rfl, fs.length, rfl, Nat.le_refl _, hj, fun h => absurd h (Nat.lt_irrefl _)⟩
theorem beginning_ok {fs : List (Str × Int)} {percent : Int} (hl : fs.length ≤ 1000000) (h0 : 0 ≤ percent) (h1 : percent ≤ 100) (hT : 0 ≤ pre fs fs.length) : ∃ K : Nat, m_beginning [.lst (fs.map itD), .int percent] = some (.int K) ∧ Short fs percent K := by
  suffices h : ∃ d, m_beginning [.lst (fs.map itD), .int percent] = some d ∧ ∃ K : Nat, d = .int K ∧ Short fs percent K by
    obtain ⟨d, e, K, rfl, hK⟩ := h
    exact ⟨K, e, hK⟩
  refine w_toPE rfl ?_
  unfold δ_beginning
  simp only [w_some, w_ofIf, w_ofMap, vAt_fz, w_var, w_C, k1_, w_1, k2b_, k2_, w_2, kA_, w_A, kMb_, kM_, w_M, w_aNil, kaCb_, kaC_, w_aCons, w_oNo, koAt_i, w_oAt, kSlc_, kSlb_, kSl_, w_Sl, ktB_, w_tB, bl_bl, ktT_, w_tTr, ktAnd_, w_tAnd, ktOr_, w_tOr, ktNot_, w_tNot, w_tYes, kIf_, w_If, kAnd_b, kOr_b, w_And, w_Or, ktL_, kbL_, kbF_, lentT_o, lentT_f, lentB_o, lentB_f, w_tBor, w_Bor, flat_int, flat_bl, flat_str, flat_non, kS_nx, kS_bk, kS_ct, kS_rt, w_Seq, kJ_s, w_J, w_Nx, w_Bk, w_Ct, kSet_, w_Set, kAugb_, kAugc_, kAug_, w_Aug, kParb_, kPar_, w_Par, gAt_some, kAsg_, w_Asg, kDrop_, w_Drop, kRet_, w_Ret, w_RetN, kIfS_, w_IfS, kApp_, kApp2_, appAt_, w_App, kPut_, putAt_, kPut2_, kPut3_, w_Put, w_Frz, frz_eq, frz1_ow, frz1_fz, kSetO_, w_SetO, kUp_, w_Up, kO_, w_O, dAt_, kFz_, w_Fz, rAt_ow, kRetO_, w_RetO, fEnd_rt, fEnd_nx, w_Fn, w_noEx, w_arNil, karb_, kar_, w_arCons, kasb_, kas_, w_arSlot, callAt_, kBack_, kCall_, w_Call, pull_nil, pull_fz, pull_sl, pull1_ow, push_nil, push_fz, push_sl, push1_ow, outs_nil, outs_f, outs_o, gN_ap, gTp_ap, gsNil_ap, gsCons_ap, kFor_, w_For, kiR_, w_iR, kiS_l, kiS_t, kiE_l, kiE_t, kiC_s, w_iC, w_iS, w_iE, kRnd_nx, kRnd_ct, kRnd_bk, kRnd_rt, kLcB_, kLcBO_, kLc_, kLcO_, w_Lc, w_LcO, kLcT_, kLcE_, v_add, v_sub, v_mul, v_div, v_mod, v_pow, v_ltA, v_leA, v_gtA, v_geA, v_eqA, v_neA, v_eqAs, v_eqAb, v_plusI, v_max2i, v_min2i, v_one, v_lenL, v_lenT, v_intI, v_tupL, v_tupT, v_lstL, v_lstT, v_sumL, v_sumT, v_maxL, v_minL, u_isN, u_notN, v_isT, v_not, u_neg, v_slL, v_slT, v_ixL, v_ixT, v_r1, v_r2, v_mulW, v_divW, v_gcdI, v_absI, v_sumR, v_foLstT, v_foLstL, v_foLst, v_tupOf, v_lstOf, o_fz, o_ol, o_nil, o_cons, at0, at1, at2, at3, at4, at5, at6, at7, ix_1_0, ix_2_0, ix_2_1, ix_3_0, ix_3_1, ix_3_2, ix_4_0, ix_4_1, ix_4_2, ix_4_3, ix_5_0, ix_5_1, ix_5_2, ix_5_3, ix_5_4, ix_6_0, ix_6_1, ix_6_2, ix_6_3, ix_6_4, ix_6_5, ix_7_0, ix_7_1, ix_7_2, ix_7_3, ix_7_4, ix_7_5, ix_7_6, ix_8_0, ix_8_1, ix_8_2, ix_8_3, ix_8_4, ix_8_5, ix_8_6, ix_8_7, ix_9_0, ix_9_1, ix_9_2, ix_9_3, ix_9_4, ix_9_5, ix_9_6, ix_9_7, ix_9_8, ix_10_0, ix_10_1, ix_10_2, ix_10_3, ix_10_4, ix_10_5, ix_10_6, ix_10_7, ix_10_8, ix_10_9, ix_11_0, ix_11_1, ix_11_2, ix_11_3, ix_11_4, ix_11_5, ix_11_6, ix_11_7, ix_11_8, ix_11_9, ix_11_10, ix_12_0, ix_12_1, ix_12_2, ix_12_3, ix_12_4, ix_12_5, ix_12_6, ix_12_7, ix_12_8, ix_12_9, ix_12_10, ix_12_11, isT_tuple_non, isT_tuple_bl, isT_tuple_int, isT_tuple_str, isT_tuple_tup, isT_tuple_lst, isT_int_non, isT_int_bl, isT_int_int, isT_int_str, isT_int_tup, isT_int_lst, isT_bool_non, isT_bool_bl, isT_bool_int, isT_bool_str, isT_bool_tup, isT_bool_lst, isT_str_non, isT_str_bl, isT_str_int, isT_str_str, isT_str_tup, isT_str_lst, isT_list_non, isT_list_bl, isT_list_int, isT_list_str, isT_list_tup, isT_list_lst, isN_non, isN_bl, isN_int, isN_str, isN_tup, isN_lst, at_ints, sz_iff, big_iff, div_iff, mod_iff, mul_iff, mulW_iff, divW_iff, pow_iff, List.getElem?_cons_succ, List.getElem?_cons_zero, List.set_cons_zero, List.set_cons_succ, List.cons_append, List.nil_append, List.replicate, Option.map_some, Option.bind_some, decide_eq_true_eq, decide_eq_false_iff_not, Option.some.injEq, exists_eq_left', Bool.not_eq_true', Bool.not_eq_false', Bool.not_true, Bool.not_false, Int.not_lt, Int.not_le, true_and, and_true, if_true, List.length_cons, List.length_nil, List.map_cons, List.map_nil, true_imp_iff, false_imp_iff, imp_self, imp_true_iff, not_true_eq_false, not_false_eq_true, List.length_map, Bool.false_eq_true, if_false, Bool.true_eq_false, reduceCtorEq, nos, backs, Sl.keep, decide_true, decide_false, ilist_map, O.lf, List.contains_cons, List.contains_nil, Bool.and_eq_true, beq_self_eq_true, Bool.or_false, Bool.or_true, Bool.true_or, Bool.false_or, and_self, if_pos, gAt_some, ds_fz, Nat.reduceBEq, Nat.reduceEqDiff, ite_self, rangeD_len, numbered_len, Int.toNat_natCast, Nat.reduceAdd, Int.reduceMod, Int.reduceDiv, Int.reduceLT, Int.reduceLE, Int.reduceNeg, Int.reduceMul, Int.reduceAdd, Int.reduceSub, Int.reducePow, Nat.reduceAdd, Nat.reduceLT, Nat.reduceLeDiff, Int.reduceEq, true_or, or_true, Int.reduceToNat, Int.toNat_zero, Int.toNat_one, List.length_set, List.length_append, List.length_singleton, Int.reduceAbs]
  refine ⟨by omega, ?_⟩
  refine w_lcK (fun k ys Γ => ys = ((fs.take k).map (·.2)).map D.int ∧ Γ = [Sl.fz (.lst (fs.map itD)), .fz (.int percent), .no, .no, .no, .no, .no]) ⟨rfl, rfl⟩ ?_ ?_
  · rintro k d ys Γ hd ⟨rfl, rfl⟩
    have hk : k < fs.length := by simpa using (List.getElem?_eq_some_iff.mp hd).1
    rw [List.getElem?_map, List.getElem?_eq_getElem hk] at hd
    cases hd
    simp only [w_some, w_ofIf, w_ofMap, vAt_fz, w_var, w_C, k1_, w_1, k2b_, k2_, w_2, kA_, w_A, kMb_, kM_, w_M, w_aNil, kaCb_, kaC_, w_aCons, w_oNo, koAt_i, w_oAt, kSlc_, kSlb_, kSl_, w_Sl, ktB_, w_tB, bl_bl, ktT_, w_tTr, ktAnd_, w_tAnd, ktOr_, w_tOr, ktNot_, w_tNot, w_tYes, kIf_, w_If, kAnd_b, kOr_b, w_And, w_Or, ktL_, kbL_, kbF_, lentT_o, lentT_f, lentB_o, lentB_f, w_tBor, w_Bor, flat_int, flat_bl, flat_str, flat_non, kS_nx, kS_bk, kS_ct, kS_rt, w_Seq, kJ_s, w_J, w_Nx, w_Bk, w_Ct, kSet_, w_Set, kAugb_, kAugc_, kAug_, w_Aug, kParb_, kPar_, w_Par, gAt_some, kAsg_, w_Asg, kDrop_, w_Drop, kRet_, w_Ret, w_RetN, kIfS_, w_IfS, kApp_, kApp2_, appAt_, w_App, kPut_, putAt_, kPut2_, kPut3_, w_Put, w_Frz, frz_eq, frz1_ow, frz1_fz, kSetO_, w_SetO, kUp_, w_Up, kO_, w_O, dAt_, kFz_, w_Fz, rAt_ow, kRetO_, w_RetO, fEnd_rt, fEnd_nx, w_Fn, w_noEx, w_arNil, karb_, kar_, w_arCons, kasb_, kas_, w_arSlot, callAt_, kBack_, kCall_, w_Call, pull_nil, pull_fz, pull_sl, pull1_ow, push_nil, push_fz, push_sl, push1_ow, outs_nil, outs_f, outs_o, gN_ap, gTp_ap, gsNil_ap, gsCons_ap, kFor_, w_For, kiR_, w_iR, kiS_l, kiS_t, kiE_l, kiE_t, kiC_s, w_iC, w_iS, w_iE, kRnd_nx, kRnd_ct, kRnd_bk, kRnd_rt, kLcB_, kLcBO_, kLc_, kLcO_, w_Lc, w_LcO, kLcT_, kLcE_, v_add, v_sub, v_mul, v_div, v_mod, v_pow, v_ltA, v_leA, v_gtA, v_geA, v_eqA, v_neA, v_eqAs, v_eqAb, v_plusI, v_max2i, v_min2i, v_one, v_lenL, v_lenT, v_intI, v_tupL, v_tupT, v_lstL, v_lstT, v_sumL, v_sumT, v_maxL, v_minL, u_isN, u_notN, v_isT, v_not, u_neg, v_slL, v_slT, v_ixL, v_ixT, v_r1, v_r2, v_mulW, v_divW, v_gcdI, v_absI, v_sumR, v_foLstT, v_foLstL, v_foLst, v_tupOf, v_lstOf, o_fz, o_ol, o_nil, o_cons, at0, at1, at2, at3, at4, at5, at6, at7, ix_1_0, ix_2_0, ix_2_1, ix_3_0, ix_3_1, ix_3_2, ix_4_0, ix_4_1, ix_4_2, ix_4_3, ix_5_0, ix_5_1, ix_5_2, ix_5_3, ix_5_4, ix_6_0, ix_6_1, ix_6_2, ix_6_3, ix_6_4, ix_6_5, ix_7_0, ix_7_1, ix_7_2, ix_7_3, ix_7_4, ix_7_5, ix_7_6, ix_8_0, ix_8_1, ix_8_2, ix_8_3, ix_8_4, ix_8_5, ix_8_6, ix_8_7, ix_9_0, ix_9_1, ix_9_2, ix_9_3, ix_9_4, ix_9_5, ix_9_6, ix_9_7, ix_9_8, ix_10_0, ix_10_1, ix_10_2, ix_10_3, ix_10_4, ix_10_5, ix_10_6, ix_10_7, ix_10_8, ix_10_9, ix_11_0, ix_11_1, ix_11_2, ix_11_3, ix_11_4, ix_11_5, ix_11_6, ix_11_7, ix_11_8, ix_11_9, ix_11_10, ix_12_0, ix_12_1, ix_12_2, ix_12_3, ix_12_4, ix_12_5, ix_12_6, ix_12_7, ix_12_8, ix_12_9, ix_12_10, ix_12_11, isT_tuple_non, isT_tuple_bl, isT_tuple_int, isT_tuple_str, isT_tuple_tup, isT_tuple_lst, isT_int_non, isT_int_bl, isT_int_int, isT_int_str, isT_int_tup, isT_int_lst, isT_bool_non, isT_bool_bl, isT_bool_int, isT_bool_str, isT_bool_tup, isT_bool_lst, isT_str_non, isT_str_bl, isT_str_int, isT_str_str, isT_str_tup, isT_str_lst, isT_list_non, isT_list_bl, isT_list_int, isT_list_str, isT_list_tup, isT_list_lst, isN_non, isN_bl, isN_int, isN_str, isN_tup, isN_lst, at_ints, sz_iff, big_iff, div_iff, mod_iff, mul_iff, mulW_iff, divW_iff, pow_iff, List.getElem?_cons_succ, List.getElem?_cons_zero, List.set_cons_zero, List.set_cons_succ, List.cons_append, List.nil_append, List.replicate, Option.map_some, Option.bind_some, decide_eq_true_eq, decide_eq_false_iff_not, Option.some.injEq, exists_eq_left', Bool.not_eq_true', Bool.not_eq_false', Bool.not_true, Bool.not_false, Int.not_lt, Int.not_le, true_and, and_true, if_true, List.length_cons, List.length_nil, List.map_cons, List.map_nil, true_imp_iff, false_imp_iff, imp_self, imp_true_iff, not_true_eq_false, not_false_eq_true, List.length_map, Bool.false_eq_true, if_false, Bool.true_eq_false, reduceCtorEq, nos, backs, Sl.keep, decide_true, decide_false, ilist_map, O.lf, List.contains_cons, List.contains_nil, Bool.and_eq_true, beq_self_eq_true, Bool.or_false, Bool.or_true, Bool.true_or, Bool.false_or, and_self, if_pos, gAt_some, ds_fz, Nat.reduceBEq, Nat.reduceEqDiff, ite_self, rangeD_len, numbered_len, Int.toNat_natCast, Nat.reduceAdd, Int.reduceMod, Int.reduceDiv, Int.reduceLT, Int.reduceLE, Int.reduceNeg, Int.reduceMul, Int.reduceAdd, Int.reduceSub, Int.reducePow, Nat.reduceAdd, Nat.reduceLT, Nat.reduceLeDiff, Int.reduceEq, true_or, or_true, Int.reduceToNat, Int.toNat_zero, Int.toNat_one, List.length_set, List.length_append, List.length_singleton, Int.reduceAbs, itD, take_map_succ hk, List.map_append]
  · rintro ys Γ ⟨rfl, rfl⟩
    rw [List.length_map]
    have eT : ((fs.take fs.length).map (·.2)).sum = pre fs fs.length := rfl
    simp only [w_some, w_ofIf, w_ofMap, vAt_fz, w_var, w_C, k1_, w_1, k2b_, k2_, w_2, kA_, w_A, kMb_, kM_, w_M, w_aNil, kaCb_, kaC_, w_aCons, w_oNo, koAt_i, w_oAt, kSlc_, kSlb_, kSl_, w_Sl, ktB_, w_tB, bl_bl, ktT_, w_tTr, ktAnd_, w_tAnd, ktOr_, w_tOr, ktNot_, w_tNot, w_tYes, kIf_, w_If, kAnd_b, kOr_b, w_And, w_Or, ktL_, kbL_, kbF_, lentT_o, lentT_f, lentB_o, lentB_f, w_tBor, w_Bor, flat_int, flat_bl, flat_str, flat_non, kS_nx, kS_bk, kS_ct, kS_rt, w_Seq, kJ_s, w_J, w_Nx, w_Bk, w_Ct, kSet_, w_Set, kAugb_, kAugc_, kAug_, w_Aug, kParb_, kPar_, w_Par, gAt_some, kAsg_, w_Asg, kDrop_, w_Drop, kRet_, w_Ret, w_RetN, kIfS_, w_IfS, kApp_, kApp2_, appAt_, w_App, kPut_, putAt_, kPut2_, kPut3_, w_Put, w_Frz, frz_eq, frz1_ow, frz1_fz, kSetO_, w_SetO, kUp_, w_Up, kO_, w_O, dAt_, kFz_, w_Fz, rAt_ow, kRetO_, w_RetO, fEnd_rt, fEnd_nx, w_Fn, w_noEx, w_arNil, karb_, kar_, w_arCons, kasb_, kas_, w_arSlot, callAt_, kBack_, kCall_, w_Call, pull_nil, pull_fz, pull_sl, pull1_ow, push_nil, push_fz, push_sl, push1_ow, outs_nil, outs_f, outs_o, gN_ap, gTp_ap, gsNil_ap, gsCons_ap, kFor_, w_For, kiR_, w_iR, kiS_l, kiS_t, kiE_l, kiE_t, kiC_s, w_iC, w_iS, w_iE, kRnd_nx, kRnd_ct, kRnd_bk, kRnd_rt, kLcB_, kLcBO_, kLc_, kLcO_, w_Lc, w_LcO, kLcT_, kLcE_, v_add, v_sub, v_mul, v_div, v_mod, v_pow, v_ltA, v_leA, v_gtA, v_geA, v_eqA, v_neA, v_eqAs, v_eqAb, v_plusI, v_max2i, v_min2i, v_one, v_lenL, v_lenT, v_intI, v_tupL, v_tupT, v_lstL, v_lstT, v_sumL, v_sumT, v_maxL, v_minL, u_isN, u_notN, v_isT, v_not, u_neg, v_slL, v_slT, v_ixL, v_ixT, v_r1, v_r2, v_mulW, v_divW, v_gcdI, v_absI, v_sumR, v_foLstT, v_foLstL, v_foLst, v_tupOf, v_lstOf, o_fz, o_ol, o_nil, o_cons, at0, at1, at2, at3, at4, at5, at6, at7, ix_1_0, ix_2_0, ix_2_1, ix_3_0, ix_3_1, ix_3_2, ix_4_0, ix_4_1, ix_4_2, ix_4_3, ix_5_0, ix_5_1, ix_5_2, ix_5_3, ix_5_4, ix_6_0, ix_6_1, ix_6_2, ix_6_3, ix_6_4, ix_6_5, ix_7_0, ix_7_1, ix_7_2, ix_7_3, ix_7_4, ix_7_5, ix_7_6, ix_8_0, ix_8_1, ix_8_2, ix_8_3, ix_8_4, ix_8_5, ix_8_6, ix_8_7, ix_9_0, ix_9_1, ix_9_2, ix_9_3, ix_9_4, ix_9_5, ix_9_6, ix_9_7, ix_9_8, ix_10_0, ix_10_1, ix_10_2, ix_10_3, ix_10_4, ix_10_5, ix_10_6, ix_10_7, ix_10_8, ix_10_9, ix_11_0, ix_11_1, ix_11_2, ix_11_3, ix_11_4, ix_11_5, ix_11_6, ix_11_7, ix_11_8, ix_11_9, ix_11_10, ix_12_0, ix_12_1, ix_12_2, ix_12_3, ix_12_4, ix_12_5, ix_12_6, ix_12_7, ix_12_8, ix_12_9, ix_12_10, ix_12_11, isT_tuple_non, isT_tuple_bl, isT_tuple_int, isT_tuple_str, isT_tuple_tup, isT_tuple_lst, isT_int_non, isT_int_bl, isT_int_int, isT_int_str, isT_int_tup, isT_int_lst, isT_bool_non, isT_bool_bl, isT_bool_int, isT_bool_str, isT_bool_tup, isT_bool_lst, isT_str_non, isT_str_bl, isT_str_int, isT_str_str, isT_str_tup, isT_str_lst, isT_list_non, isT_list_bl, isT_list_int, isT_list_str, isT_list_tup, isT_list_lst, isN_non, isN_bl, isN_int, isN_str, isN_tup, isN_lst, at_ints, sz_iff, big_iff, div_iff, mod_iff, mul_iff, mulW_iff, divW_iff, pow_iff, List.getElem?_cons_succ, List.getElem?_cons_zero, List.set_cons_zero, List.set_cons_succ, List.cons_append, List.nil_append, List.replicate, Option.map_some, Option.bind_some, decide_eq_true_eq, decide_eq_false_iff_not, Option.some.injEq, exists_eq_left', Bool.not_eq_true', Bool.not_eq_false', Bool.not_true, Bool.not_false, Int.not_lt, Int.not_le, true_and, and_true, if_true, List.length_cons, List.length_nil, List.map_cons, List.map_nil, true_imp_iff, false_imp_iff, imp_self, imp_true_iff, not_true_eq_false, not_false_eq_true, List.length_map, Bool.false_eq_true, if_false, Bool.true_eq_false, reduceCtorEq, nos, backs, Sl.keep, decide_true, decide_false, ilist_map, O.lf, List.contains_cons, List.contains_nil, Bool.and_eq_true, beq_self_eq_true, Bool.or_false, Bool.or_true, Bool.true_or, Bool.false_or, and_self, if_pos, gAt_some, ds_fz, Nat.reduceBEq, Nat.reduceEqDiff, ite_self, rangeD_len, numbered_len, Int.toNat_natCast, Nat.reduceAdd, Int.reduceMod, Int.reduceDiv, Int.reduceLT, Int.reduceLE, Int.reduceNeg, Int.reduceMul, Int.reduceAdd, Int.reduceSub, Int.reducePow, Nat.reduceAdd, Nat.reduceLT, Nat.reduceLeDiff, Int.reduceEq, true_or, or_true, Int.reduceToNat, Int.toNat_zero, Int.toNat_one, List.length_set, List.length_append, List.length_singleton, Int.reduceAbs, eT]
    refine ⟨by omega, ?_⟩
    refine w_loopN (fun k Γ => ∃ s4, (∀ j, j < k → 100 * pre fs j < percent * pre fs fs.length) ∧ Γ = [Sl.fz (.lst (fs.map itD)), .fz (.int percent), .fz (.int (pre fs fs.length)), .fz (.int (pre fs k)), s4, .no, .no]) ⟨_, fun j hj => absurd hj (Nat.not_lt_zero _), rfl⟩ ?_ ?_
    · rintro k d Γ hd ⟨s4, hj, rfl⟩
      obtain ⟨hk, rfl⟩ := rangeD_get0 hd
      have hk1 : k ≤ fs.length := by omega
      have hend : percent * pre fs fs.length ≤ 100 * pre fs fs.length := Int.mul_le_mul_of_nonneg_right h1 hT
      have hc : pre fs fs.length * percent = percent * pre fs fs.length := Int.mul_comm _ _
      simp only [w_some, w_ofIf, w_ofMap, vAt_fz, w_var, w_C, k1_, w_1, k2b_, k2_, w_2, kA_, w_A, kMb_, kM_, w_M, w_aNil, kaCb_, kaC_, w_aCons, w_oNo, koAt_i, w_oAt, kSlc_, kSlb_, kSl_, w_Sl, ktB_, w_tB, bl_bl, ktT_, w_tTr, ktAnd_, w_tAnd, ktOr_, w_tOr, ktNot_, w_tNot, w_tYes, kIf_, w_If, kAnd_b, kOr_b, w_And, w_Or, ktL_, kbL_, kbF_, lentT_o, lentT_f, lentB_o, lentB_f, w_tBor, w_Bor, flat_int, flat_bl, flat_str, flat_non, kS_nx, kS_bk, kS_ct, kS_rt, w_Seq, kJ_s, w_J, w_Nx, w_Bk, w_Ct, kSet_, w_Set, kAugb_, kAugc_, kAug_, w_Aug, kParb_, kPar_, w_Par, gAt_some, kAsg_, w_Asg, kDrop_, w_Drop, kRet_, w_Ret, w_RetN, kIfS_, w_IfS, kApp_, kApp2_, appAt_, w_App, kPut_, putAt_, kPut2_, kPut3_, w_Put, w_Frz, frz_eq, frz1_ow, frz1_fz, kSetO_, w_SetO, kUp_, w_Up, kO_, w_O, dAt_, kFz_, w_Fz, rAt_ow, kRetO_, w_RetO, fEnd_rt, fEnd_nx, w_Fn, w_noEx, w_arNil, karb_, kar_, w_arCons, kasb_, kas_, w_arSlot, callAt_, kBack_, kCall_, w_Call, pull_nil, pull_fz, pull_sl, pull1_ow, push_nil, push_fz, push_sl, push1_ow, outs_nil, outs_f, outs_o, gN_ap, gTp_ap, gsNil_ap, gsCons_ap, kFor_, w_For, kiR_, w_iR, kiS_l, kiS_t, kiE_l, kiE_t, kiC_s, w_iC, w_iS, w_iE, kRnd_nx, kRnd_ct, kRnd_bk, kRnd_rt, kLcB_, kLcBO_, kLc_, kLcO_, w_Lc, w_LcO, kLcT_, kLcE_, v_add, v_sub, v_mul, v_div, v_mod, v_pow, v_ltA, v_leA, v_gtA, v_geA, v_eqA, v_neA, v_eqAs, v_eqAb, v_plusI, v_max2i, v_min2i, v_one, v_lenL, v_lenT, v_intI, v_tupL, v_tupT, v_lstL, v_lstT, v_sumL, v_sumT, v_maxL, v_minL, u_isN, u_notN, v_isT, v_not, u_neg, v_slL, v_slT, v_ixL, v_ixT, v_r1, v_r2, v_mulW, v_divW, v_gcdI, v_absI, v_sumR, v_foLstT, v_foLstL, v_foLst, v_tupOf, v_lstOf, o_fz, o_ol, o_nil, o_cons, at0, at1, at2, at3, at4, at5, at6, at7, ix_1_0, ix_2_0, ix_2_1, ix_3_0, ix_3_1, ix_3_2, ix_4_0, ix_4_1, ix_4_2, ix_4_3, ix_5_0, ix_5_1, ix_5_2, ix_5_3, ix_5_4, ix_6_0, ix_6_1, ix_6_2, ix_6_3, ix_6_4, ix_6_5, ix_7_0, ix_7_1, ix_7_2, ix_7_3, ix_7_4, ix_7_5, ix_7_6, ix_8_0, ix_8_1, ix_8_2, ix_8_3, ix_8_4, ix_8_5, ix_8_6, ix_8_7, ix_9_0, ix_9_1, ix_9_2, ix_9_3, ix_9_4, ix_9_5, ix_9_6, ix_9_7, ix_9_8, ix_10_0, ix_10_1, ix_10_2, ix_10_3, ix_10_4, ix_10_5, ix_10_6, ix_10_7, ix_10_8, ix_10_9, ix_11_0, ix_11_1, ix_11_2, ix_11_3, ix_11_4, ix_11_5, ix_11_6, ix_11_7, ix_11_8, ix_11_9, ix_11_10, ix_12_0, ix_12_1, ix_12_2, ix_12_3, ix_12_4, ix_12_5, ix_12_6, ix_12_7, ix_12_8, ix_12_9, ix_12_10, ix_12_11, isT_tuple_non, isT_tuple_bl, isT_tuple_int, isT_tuple_str, isT_tuple_tup, isT_tuple_lst, isT_int_non, isT_int_bl, isT_int_int, isT_int_str, isT_int_tup, isT_int_lst, isT_bool_non, isT_bool_bl, isT_bool_int, isT_bool_str, isT_bool_tup, isT_bool_lst, isT_str_non, isT_str_bl, isT_str_int, isT_str_str, isT_str_tup, isT_str_lst, isT_list_non, isT_list_bl, isT_list_int, isT_list_str, isT_list_tup, isT_list_lst, isN_non, isN_bl, isN_int, isN_str, isN_tup, isN_lst, at_ints, sz_iff, big_iff, div_iff, mod_iff, mul_iff, mulW_iff, divW_iff, pow_iff, List.getElem?_cons_succ, List.getElem?_cons_zero, List.set_cons_zero, List.set_cons_succ, List.cons_append, List.nil_append, List.replicate, Option.map_some, Option.bind_some, decide_eq_true_eq, decide_eq_false_iff_not, Option.some.injEq, exists_eq_left', Bool.not_eq_true', Bool.not_eq_false', Bool.not_true, Bool.not_false, Int.not_lt, Int.not_le, true_and, and_true, if_true, List.length_cons, List.length_nil, List.map_cons, List.map_nil, true_imp_iff, false_imp_iff, imp_self, imp_true_iff, not_true_eq_false, not_false_eq_true, List.length_map, Bool.false_eq_true, if_false, Bool.true_eq_false, reduceCtorEq, nos, backs, Sl.keep, decide_true, decide_false, ilist_map, O.lf, List.contains_cons, List.contains_nil, Bool.and_eq_true, beq_self_eq_true, Bool.or_false, Bool.or_true, Bool.true_or, Bool.false_or, and_self, if_pos, gAt_some, ds_fz, Nat.reduceBEq, Nat.reduceEqDiff, ite_self, rangeD_len, numbered_len, Int.toNat_natCast, Nat.reduceAdd, Int.reduceMod, Int.reduceDiv, Int.reduceLT, Int.reduceLE, Int.reduceNeg, Int.reduceMul, Int.reduceAdd, Int.reduceSub, Int.reducePow, Nat.reduceAdd, Nat.reduceLT, Nat.reduceLeDiff, Int.reduceEq, true_or, or_true, Int.reduceToNat, Int.toNat_zero, Int.toNat_one, List.length_set, List.length_append, List.length_singleton, Int.reduceAbs]
      refine ⟨.inr ⟨by omega, by omega⟩, fun hr => ⟨_, rfl, k, rfl, by omega, hj, fun _ => by omega⟩, fun hr => ?_⟩
      have hk2 : k < fs.length := by
        rcases Nat.lt_or_ge k fs.length with q | q
        · exact q
        · exfalso
          rw [show k = fs.length by omega] at hr
          omega
      have e1 : atI (fs.map itD) (k : Int) = some (itD fs[k]) := DL.atI_nat (by rw [List.getElem?_map, List.getElem?_eq_getElem hk2]; rfl)
      simp only [w_some, w_ofIf, w_ofMap, vAt_fz, w_var, w_C, k1_, w_1, k2b_, k2_, w_2, kA_, w_A, kMb_, kM_, w_M, w_aNil, kaCb_, kaC_, w_aCons, w_oNo, koAt_i, w_oAt, kSlc_, kSlb_, kSl_, w_Sl, ktB_, w_tB, bl_bl, ktT_, w_tTr, ktAnd_, w_tAnd, ktOr_, w_tOr, ktNot_, w_tNot, w_tYes, kIf_, w_If, kAnd_b, kOr_b, w_And, w_Or, ktL_, kbL_, kbF_, lentT_o, lentT_f, lentB_o, lentB_f, w_tBor, w_Bor, flat_int, flat_bl, flat_str, flat_non, kS_nx, kS_bk, kS_ct, kS_rt, w_Seq, kJ_s, w_J, w_Nx, w_Bk, w_Ct, kSet_, w_Set, kAugb_, kAugc_, kAug_, w_Aug, kParb_, kPar_, w_Par, gAt_some, kAsg_, w_Asg, kDrop_, w_Drop, kRet_, w_Ret, w_RetN, kIfS_, w_IfS, kApp_, kApp2_, appAt_, w_App, kPut_, putAt_, kPut2_, kPut3_, w_Put, w_Frz, frz_eq, frz1_ow, frz1_fz, kSetO_, w_SetO, kUp_, w_Up, kO_, w_O, dAt_, kFz_, w_Fz, rAt_ow, kRetO_, w_RetO, fEnd_rt, fEnd_nx, w_Fn, w_noEx, w_arNil, karb_, kar_, w_arCons, kasb_, kas_, w_arSlot, callAt_, kBack_, kCall_, w_Call, pull_nil, pull_fz, pull_sl, pull1_ow, push_nil, push_fz, push_sl, push1_ow, outs_nil, outs_f, outs_o, gN_ap, gTp_ap, gsNil_ap, gsCons_ap, kFor_, w_For, kiR_, w_iR, kiS_l, kiS_t, kiE_l, kiE_t, kiC_s, w_iC, w_iS, w_iE, kRnd_nx, kRnd_ct, kRnd_bk, kRnd_rt, kLcB_, kLcBO_, kLc_, kLcO_, w_Lc, w_LcO, kLcT_, kLcE_, v_add, v_sub, v_mul, v_div, v_mod, v_pow, v_ltA, v_leA, v_gtA, v_geA, v_eqA, v_neA, v_eqAs, v_eqAb, v_plusI, v_max2i, v_min2i, v_one, v_lenL, v_lenT, v_intI, v_tupL, v_tupT, v_lstL, v_lstT, v_sumL, v_sumT, v_maxL, v_minL, u_isN, u_notN, v_isT, v_not, u_neg, v_slL, v_slT, v_ixL, v_ixT, v_r1, v_r2, v_mulW, v_divW, v_gcdI, v_absI, v_sumR, v_foLstT, v_foLstL, v_foLst, v_tupOf, v_lstOf, o_fz, o_ol, o_nil, o_cons, at0, at1, at2, at3, at4, at5, at6, at7, ix_1_0, ix_2_0, ix_2_1, ix_3_0, ix_3_1, ix_3_2, ix_4_0, ix_4_1, ix_4_2, ix_4_3, ix_5_0, ix_5_1, ix_5_2, ix_5_3, ix_5_4, ix_6_0, ix_6_1, ix_6_2, ix_6_3, ix_6_4, ix_6_5, ix_7_0, ix_7_1, ix_7_2, ix_7_3, ix_7_4, ix_7_5, ix_7_6, ix_8_0, ix_8_1, ix_8_2, ix_8_3, ix_8_4, ix_8_5, ix_8_6, ix_8_7, ix_9_0, ix_9_1, ix_9_2, ix_9_3, ix_9_4, ix_9_5, ix_9_6, ix_9_7, ix_9_8, ix_10_0, ix_10_1, ix_10_2, ix_10_3, ix_10_4, ix_10_5, ix_10_6, ix_10_7, ix_10_8, ix_10_9, ix_11_0, ix_11_1, ix_11_2, ix_11_3, ix_11_4, ix_11_5, ix_11_6, ix_11_7, ix_11_8, ix_11_9, ix_11_10, ix_12_0, ix_12_1, ix_12_2, ix_12_3, ix_12_4, ix_12_5, ix_12_6, ix_12_7, ix_12_8, ix_12_9, ix_12_10, ix_12_11, isT_tuple_non, isT_tuple_bl, isT_tuple_int, isT_tuple_str, isT_tuple_tup, isT_tuple_lst, isT_int_non, isT_int_bl, isT_int_int, isT_int_str, isT_int_tup, isT_int_lst, isT_bool_non, isT_bool_bl, isT_bool_int, isT_bool_str, isT_bool_tup, isT_bool_lst, isT_str_non, isT_str_bl, isT_str_int, isT_str_str, isT_str_tup, isT_str_lst, isT_list_non, isT_list_bl, isT_list_int, isT_list_str, isT_list_tup, isT_list_lst, isN_non, isN_bl, isN_int, isN_str, isN_tup, isN_lst, at_ints, sz_iff, big_iff, div_iff, mod_iff, mul_iff, mulW_iff, divW_iff, pow_iff, List.getElem?_cons_succ, List.getElem?_cons_zero, List.set_cons_zero, List.set_cons_succ, List.cons_append, List.nil_append, List.replicate, Option.map_some, Option.bind_some, decide_eq_true_eq, decide_eq_false_iff_not, Option.some.injEq, exists_eq_left', Bool.not_eq_true', Bool.not_eq_false', Bool.not_true, Bool.not_false, Int.not_lt, Int.not_le, true_and, and_true, if_true, List.length_cons, List.length_nil, List.map_cons, List.map_nil, true_imp_iff, false_imp_iff, imp_self, imp_true_iff, not_true_eq_false, not_false_eq_true, List.length_map, Bool.false_eq_true, if_false, Bool.true_eq_false, reduceCtorEq, nos, backs, Sl.keep, decide_true, decide_false, ilist_map, O.lf, List.contains_cons, List.contains_nil, Bool.and_eq_true, beq_self_eq_true, Bool.or_false, Bool.or_true, Bool.true_or, Bool.false_or, and_self, if_pos, gAt_some, ds_fz, Nat.reduceBEq, Nat.reduceEqDiff, ite_self, rangeD_len, numbered_len, Int.toNat_natCast, Nat.reduceAdd, Int.reduceMod, Int.reduceDiv, Int.reduceLT, Int.reduceLE, Int.reduceNeg, Int.reduceMul, Int.reduceAdd, Int.reduceSub, Int.reducePow, Nat.reduceAdd, Nat.reduceLT, Nat.reduceLeDiff, Int.reduceEq, true_or, or_true, Int.reduceToNat, Int.toNat_zero, Int.toNat_one, List.length_set, List.length_append, List.length_singleton, Int.reduceAbs, e1, itD, ← pre_succ hk2]
      refine ⟨_, fun j hj2 => ?_, rfl⟩
      by_cases q : j = k
      · subst q; omega
      · exact hj j (by omega)
    · rintro Γ ⟨s4, hj, rfl⟩
      rw [rangeD_len] at hj
      exfalso
      have hend : percent * pre fs fs.length ≤ 100 * pre fs fs.length := Int.mul_le_mul_of_nonneg_right h1 hT
      have := hj fs.length (by omega)
      omega

theorem short_mono {fs : List (Str × Int)} {p q : Int} {K L : Nat} (hT : 0 ≤ pre fs fs.length) (hpq : p ≤ q) (h : Short fs p K) (h' : Short fs q L) : K ≤ L := by
  obtain ⟨a1, a2, a3⟩ := h
  obtain ⟨b1, b2, b3⟩ := h'
  rcases Nat.lt_or_ge L K with z | z
  · have h1 := a2 L z
    have h2 := b3 (by omega)
    have h3 : p * pre fs fs.length ≤ q * pre fs fs.length := Int.mul_le_mul_of_nonneg_right hpq hT
    omega
  · exact z

def cls (S L k : Nat) : Str := if k < S then "a" else if k < L then "b" else "c"
def found (fs : List (Str × Int)) (S L n : Nat) : List (Str × Str) := (List.range n).map fun k => ((fs.getD k ("", 0)).1, cls S L k)
theorem found_succ {fs : List (Str × Int)} {S L n : Nat} : found fs S L (n + 1) = found fs S L n ++ [((fs.getD n ("", 0)).1, cls S L n)] := by simp [found, List.range_succ]
theorem found_len {fs : List (Str × Int)} {S L n : Nat} : (found fs S L n).length = n := by simp [found]
theorem found_ok {fs : List (Str × Int)} {S L : Nat} (hw : wordsOk (fs.map (·.1))) : oSorted false (.lst ((found fs S L fs.length).map clsD)) = some (.lst (sortD false ((found fs S L fs.length).map clsD))) := by
  have h1 : wordsOk ((found fs S L fs.length).map (·.1)) := by
    intro s hs
    obtain ⟨p, hp, rfl⟩ := List.mem_map.mp hs
    obtain ⟨k, hk, rfl⟩ := List.mem_map.mp hp
    have hk := List.mem_range.mp hk
    refine hw _ (List.mem_map.mpr ⟨fs[k], List.getElem_mem hk, ?_⟩)
    simp [List.getD_eq_getElem?_getD, List.getElem?_eq_getElem hk]
  have h2 : wordsOk ((found fs S L fs.length).map (·.2)) := by
    intro s hs
    obtain ⟨p, hp, rfl⟩ := List.mem_map.mp hs
    obtain ⟨k, hk, rfl⟩ := List.mem_map.mp hp
    simp only [cls]
    split
    · decide +kernel
    · split <;> decide +kernel
  simp only [oSorted, c_cls h1 h2, if_true]

theorem law_classes_ok {xs : List D} {fs : List (Str × Int)} {first second : Int} {S L : Nat} (hf : m_x_law_falling [.lst xs] = some (.lst (fs.map itD))) (hl : fs.length ≤ 1000000) (hw : wordsOk (fs.map (·.1))) (hS : m_x_law_shortest [.lst (fs.map itD), .int first] = some (.int S)) (hL : m_x_law_shortest [.lst (fs.map itD), .int second] = some (.int L)) :
    m_x_law_classes [.lst xs, .int first, .int second] = some (.tup (sortD false ((found fs S L fs.length).map clsD))) := by
  refine w_toP rfl ?_
  unfold δ_x_law_classes
  simp only [w_some, w_ofIf, w_ofMap, vAt_fz, w_var, w_C, k1_, w_1, k2b_, k2_, w_2, kA_, w_A, kMb_, kM_, w_M, w_aNil, kaCb_, kaC_, w_aCons, w_oNo, koAt_i, w_oAt, kSlc_, kSlb_, kSl_, w_Sl, ktB_, w_tB, bl_bl, ktT_, w_tTr, ktAnd_, w_tAnd, ktOr_, w_tOr, ktNot_, w_tNot, w_tYes, kIf_, w_If, kAnd_b, kOr_b, w_And, w_Or, ktL_, kbL_, kbF_, lentT_o, lentT_f, lentB_o, lentB_f, w_tBor, w_Bor, flat_int, flat_bl, flat_str, flat_non, kS_nx, kS_bk, kS_ct, kS_rt, w_Seq, kJ_s, w_J, w_Nx, w_Bk, w_Ct, kSet_, w_Set, kAugb_, kAugc_, kAug_, w_Aug, kParb_, kPar_, w_Par, gAt_some, kAsg_, w_Asg, kDrop_, w_Drop, kRet_, w_Ret, w_RetN, kIfS_, w_IfS, kApp_, kApp2_, appAt_, w_App, kPut_, putAt_, kPut2_, kPut3_, w_Put, w_Frz, frz_eq, frz1_ow, frz1_fz, kSetO_, w_SetO, kUp_, w_Up, kO_, w_O, dAt_, kFz_, w_Fz, rAt_ow, kRetO_, w_RetO, fEnd_rt, fEnd_nx, w_Fn, w_noEx, w_arNil, karb_, kar_, w_arCons, kasb_, kas_, w_arSlot, callAt_, kBack_, kCall_, w_Call, pull_nil, pull_fz, pull_sl, pull1_ow, push_nil, push_fz, push_sl, push1_ow, outs_nil, outs_f, outs_o, gN_ap, gTp_ap, gsNil_ap, gsCons_ap, kFor_, w_For, kiR_, w_iR, kiS_l, kiS_t, kiE_l, kiE_t, kiC_s, w_iC, w_iS, w_iE, kRnd_nx, kRnd_ct, kRnd_bk, kRnd_rt, kLcB_, kLcBO_, kLc_, kLcO_, w_Lc, w_LcO, kLcT_, kLcE_, v_add, v_sub, v_mul, v_div, v_mod, v_pow, v_ltA, v_leA, v_gtA, v_geA, v_eqA, v_neA, v_eqAs, v_eqAb, v_plusI, v_max2i, v_min2i, v_one, v_lenL, v_lenT, v_intI, v_tupL, v_tupT, v_lstL, v_lstT, v_sumL, v_sumT, v_maxL, v_minL, u_isN, u_notN, v_isT, v_not, u_neg, v_slL, v_slT, v_ixL, v_ixT, v_r1, v_r2, v_mulW, v_divW, v_gcdI, v_absI, v_sumR, v_foLstT, v_foLstL, v_foLst, v_tupOf, v_lstOf, o_fz, o_ol, o_nil, o_cons, at0, at1, at2, at3, at4, at5, at6, at7, ix_1_0, ix_2_0, ix_2_1, ix_3_0, ix_3_1, ix_3_2, ix_4_0, ix_4_1, ix_4_2, ix_4_3, ix_5_0, ix_5_1, ix_5_2, ix_5_3, ix_5_4, ix_6_0, ix_6_1, ix_6_2, ix_6_3, ix_6_4, ix_6_5, ix_7_0, ix_7_1, ix_7_2, ix_7_3, ix_7_4, ix_7_5, ix_7_6, ix_8_0, ix_8_1, ix_8_2, ix_8_3, ix_8_4, ix_8_5, ix_8_6, ix_8_7, ix_9_0, ix_9_1, ix_9_2, ix_9_3, ix_9_4, ix_9_5, ix_9_6, ix_9_7, ix_9_8, ix_10_0, ix_10_1, ix_10_2, ix_10_3, ix_10_4, ix_10_5, ix_10_6, ix_10_7, ix_10_8, ix_10_9, ix_11_0, ix_11_1, ix_11_2, ix_11_3, ix_11_4, ix_11_5, ix_11_6, ix_11_7, ix_11_8, ix_11_9, ix_11_10, ix_12_0, ix_12_1, ix_12_2, ix_12_3, ix_12_4, ix_12_5, ix_12_6, ix_12_7, ix_12_8, ix_12_9, ix_12_10, ix_12_11, isT_tuple_non, isT_tuple_bl, isT_tuple_int, isT_tuple_str, isT_tuple_tup, isT_tuple_lst, isT_int_non, isT_int_bl, isT_int_int, isT_int_str, isT_int_tup, isT_int_lst, isT_bool_non, isT_bool_bl, isT_bool_int, isT_bool_str, isT_bool_tup, isT_bool_lst, isT_str_non, isT_str_bl, isT_str_int, isT_str_str, isT_str_tup, isT_str_lst, isT_list_non, isT_list_bl, isT_list_int, isT_list_str, isT_list_tup, isT_list_lst, isN_non, isN_bl, isN_int, isN_str, isN_tup, isN_lst, at_ints, sz_iff, big_iff, div_iff, mod_iff, mul_iff, mulW_iff, divW_iff, pow_iff, List.getElem?_cons_succ, List.getElem?_cons_zero, List.set_cons_zero, List.set_cons_succ, List.cons_append, List.nil_append, List.replicate, Option.map_some, Option.bind_some, decide_eq_true_eq, decide_eq_false_iff_not, Option.some.injEq, exists_eq_left', Bool.not_eq_true', Bool.not_eq_false', Bool.not_true, Bool.not_false, Int.not_lt, Int.not_le, true_and, and_true, if_true, List.length_cons, List.length_nil, List.map_cons, List.map_nil, true_imp_iff, false_imp_iff, imp_self, imp_true_iff, not_true_eq_false, not_false_eq_true, List.length_map, Bool.false_eq_true, if_false, Bool.true_eq_false, reduceCtorEq, nos, backs, Sl.keep, decide_true, decide_false, ilist_map, O.lf, List.contains_cons, List.contains_nil, Bool.and_eq_true, beq_self_eq_true, Bool.or_false, Bool.or_true, Bool.true_or, Bool.false_or, and_self, if_pos, gAt_some, ds_fz, Nat.reduceBEq, Nat.reduceEqDiff, ite_self, rangeD_len, numbered_len, Int.toNat_natCast, Nat.reduceAdd, Int.reduceMod, Int.reduceDiv, Int.reduceLT, Int.reduceLE, Int.reduceNeg, Int.reduceMul, Int.reduceAdd, Int.reduceSub, Int.reducePow, Nat.reduceAdd, Nat.reduceLT, Nat.reduceLeDiff, Int.reduceEq, true_or, or_true, Int.reduceToNat, Int.toNat_zero, Int.toNat_one, List.length_set, List.length_append, List.length_singleton, Int.reduceAbs, hf, hS, hL]
  refine ⟨by omega, ?_⟩
  refine w_loopN (fun k Γ => ∃ s7, Γ = [Sl.fz (.lst xs), .fz (.int first), .fz (.int second), .fz (.lst (fs.map itD)), .fz (.int S), .fz (.int L), .ow none (.ol (((found fs S L k).map clsD).map O.fz)), s7]) ⟨_, rfl⟩ ?_ ?_
  · rintro k d Γ hd ⟨s7, rfl⟩
    obtain ⟨hk, rfl⟩ := rangeD_get0 hd
    have e1 : atI (fs.map itD) (k : Int) = some (itD fs[k]) := DL.atI_nat (by rw [List.getElem?_map, List.getElem?_eq_getElem hk]; rfl)
    have e2 : fs.getD k ("", 0) = fs[k] := by rw [List.getD_eq_getElem?_getD, List.getElem?_eq_getElem hk]; rfl
    simp only [w_some, w_ofIf, w_ofMap, vAt_fz, w_var, w_C, k1_, w_1, k2b_, k2_, w_2, kA_, w_A, kMb_, kM_, w_M, w_aNil, kaCb_, kaC_, w_aCons, w_oNo, koAt_i, w_oAt, kSlc_, kSlb_, kSl_, w_Sl, ktB_, w_tB, bl_bl, ktT_, w_tTr, ktAnd_, w_tAnd, ktOr_, w_tOr, ktNot_, w_tNot, w_tYes, kIf_, w_If, kAnd_b, kOr_b, w_And, w_Or, ktL_, kbL_, kbF_, lentT_o, lentT_f, lentB_o, lentB_f, w_tBor, w_Bor, flat_int, flat_bl, flat_str, flat_non, kS_nx, kS_bk, kS_ct, kS_rt, w_Seq, kJ_s, w_J, w_Nx, w_Bk, w_Ct, kSet_, w_Set, kAugb_, kAugc_, kAug_, w_Aug, kParb_, kPar_, w_Par, gAt_some, kAsg_, w_Asg, kDrop_, w_Drop, kRet_, w_Ret, w_RetN, kIfS_, w_IfS, kApp_, kApp2_, appAt_, w_App, kPut_, putAt_, kPut2_, kPut3_, w_Put, w_Frz, frz_eq, frz1_ow, frz1_fz, kSetO_, w_SetO, kUp_, w_Up, kO_, w_O, dAt_, kFz_, w_Fz, rAt_ow, kRetO_, w_RetO, fEnd_rt, fEnd_nx, w_Fn, w_noEx, w_arNil, karb_, kar_, w_arCons, kasb_, kas_, w_arSlot, callAt_, kBack_, kCall_, w_Call, pull_nil, pull_fz, pull_sl, pull1_ow, push_nil, push_fz, push_sl, push1_ow, outs_nil, outs_f, outs_o, gN_ap, gTp_ap, gsNil_ap, gsCons_ap, kFor_, w_For, kiR_, w_iR, kiS_l, kiS_t, kiE_l, kiE_t, kiC_s, w_iC, w_iS, w_iE, kRnd_nx, kRnd_ct, kRnd_bk, kRnd_rt, kLcB_, kLcBO_, kLc_, kLcO_, w_Lc, w_LcO, kLcT_, kLcE_, v_add, v_sub, v_mul, v_div, v_mod, v_pow, v_ltA, v_leA, v_gtA, v_geA, v_eqA, v_neA, v_eqAs, v_eqAb, v_plusI, v_max2i, v_min2i, v_one, v_lenL, v_lenT, v_intI, v_tupL, v_tupT, v_lstL, v_lstT, v_sumL, v_sumT, v_maxL, v_minL, u_isN, u_notN, v_isT, v_not, u_neg, v_slL, v_slT, v_ixL, v_ixT, v_r1, v_r2, v_mulW, v_divW, v_gcdI, v_absI, v_sumR, v_foLstT, v_foLstL, v_foLst, v_tupOf, v_lstOf, o_fz, o_ol, o_nil, o_cons, at0, at1, at2, at3, at4, at5, at6, at7, ix_1_0, ix_2_0, ix_2_1, ix_3_0, ix_3_1, ix_3_2, ix_4_0, ix_4_1, ix_4_2, ix_4_3, ix_5_0, ix_5_1, ix_5_2, ix_5_3, ix_5_4, ix_6_0, ix_6_1, ix_6_2, ix_6_3, ix_6_4, ix_6_5, ix_7_0, ix_7_1, ix_7_2, ix_7_3, ix_7_4, ix_7_5, ix_7_6, ix_8_0, ix_8_1, ix_8_2, ix_8_3, ix_8_4, ix_8_5, ix_8_6, ix_8_7, ix_9_0, ix_9_1, ix_9_2, ix_9_3, ix_9_4, ix_9_5, ix_9_6, ix_9_7, ix_9_8, ix_10_0, ix_10_1, ix_10_2, ix_10_3, ix_10_4, ix_10_5, ix_10_6, ix_10_7, ix_10_8, ix_10_9, ix_11_0, ix_11_1, ix_11_2, ix_11_3, ix_11_4, ix_11_5, ix_11_6, ix_11_7, ix_11_8, ix_11_9, ix_11_10, ix_12_0, ix_12_1, ix_12_2, ix_12_3, ix_12_4, ix_12_5, ix_12_6, ix_12_7, ix_12_8, ix_12_9, ix_12_10, ix_12_11, isT_tuple_non, isT_tuple_bl, isT_tuple_int, isT_tuple_str, isT_tuple_tup, isT_tuple_lst, isT_int_non, isT_int_bl, isT_int_int, isT_int_str, isT_int_tup, isT_int_lst, isT_bool_non, isT_bool_bl, isT_bool_int, isT_bool_str, isT_bool_tup, isT_bool_lst, isT_str_non, isT_str_bl, isT_str_int, isT_str_str, isT_str_tup, isT_str_lst, isT_list_non, isT_list_bl, isT_list_int, isT_list_str, isT_list_tup, isT_list_lst, isN_non, isN_bl, isN_int, isN_str, isN_tup, isN_lst, at_ints, sz_iff, big_iff, div_iff, mod_iff, mul_iff, mulW_iff, divW_iff, pow_iff, List.getElem?_cons_succ, List.getElem?_cons_zero, List.set_cons_zero, List.set_cons_succ, List.cons_append, List.nil_append, List.replicate, Option.map_some, Option.bind_some, decide_eq_true_eq, decide_eq_false_iff_not, Option.some.injEq, exists_eq_left', Bool.not_eq_true', Bool.not_eq_false', Bool.not_true, Bool.not_false, Int.not_lt, Int.not_le, true_and, and_true, if_true, List.length_cons, List.length_nil, List.map_cons, List.map_nil, true_imp_iff, false_imp_iff, imp_self, imp_true_iff, not_true_eq_false, not_false_eq_true, List.length_map, Bool.false_eq_true, if_false, Bool.true_eq_false, reduceCtorEq, nos, backs, Sl.keep, decide_true, decide_false, ilist_map, O.lf, List.contains_cons, List.contains_nil, Bool.and_eq_true, beq_self_eq_true, Bool.or_false, Bool.or_true, Bool.true_or, Bool.false_or, and_self, if_pos, gAt_some, ds_fz, Nat.reduceBEq, Nat.reduceEqDiff, ite_self, rangeD_len, numbered_len, Int.toNat_natCast, Nat.reduceAdd, Int.reduceMod, Int.reduceDiv, Int.reduceLT, Int.reduceLE, Int.reduceNeg, Int.reduceMul, Int.reduceAdd, Int.reduceSub, Int.reducePow, Nat.reduceAdd, Nat.reduceLT, Nat.reduceLeDiff, Int.reduceEq, true_or, or_true, Int.reduceToNat, Int.toNat_zero, Int.toNat_one, List.length_set, List.length_append, List.length_singleton, Int.reduceAbs, e1, itD, found_succ, found_len, e2, List.map_append, clsD, cls]
    refine ⟨fun h => ⟨by omega, _, by rw [if_pos (by omega)]⟩, fun h => ⟨fun h2 => ⟨by omega, _, by rw [if_neg (by omega), if_pos (by omega)]⟩, fun h2 => ⟨by omega, _, by rw [if_neg (by omega), if_neg (by omega)]⟩⟩⟩
  · rintro Γ ⟨s7, rfl⟩
    rw [rangeD_len]
    simp only [w_some, w_ofIf, w_ofMap, vAt_fz, w_var, w_C, k1_, w_1, k2b_, k2_, w_2, kA_, w_A, kMb_, kM_, w_M, w_aNil, kaCb_, kaC_, w_aCons, w_oNo, koAt_i, w_oAt, kSlc_, kSlb_, kSl_, w_Sl, ktB_, w_tB, bl_bl, ktT_, w_tTr, ktAnd_, w_tAnd, ktOr_, w_tOr, ktNot_, w_tNot, w_tYes, kIf_, w_If, kAnd_b, kOr_b, w_And, w_Or, ktL_, kbL_, kbF_, lentT_o, lentT_f, lentB_o, lentB_f, w_tBor, w_Bor, flat_int, flat_bl, flat_str, flat_non, kS_nx, kS_bk, kS_ct, kS_rt, w_Seq, kJ_s, w_J, w_Nx, w_Bk, w_Ct, kSet_, w_Set, kAugb_, kAugc_, kAug_, w_Aug, kParb_, kPar_, w_Par, gAt_some, kAsg_, w_Asg, kDrop_, w_Drop, kRet_, w_Ret, w_RetN, kIfS_, w_IfS, kApp_, kApp2_, appAt_, w_App, kPut_, putAt_, kPut2_, kPut3_, w_Put, w_Frz, frz_eq, frz1_ow, frz1_fz, kSetO_, w_SetO, kUp_, w_Up, kO_, w_O, dAt_, kFz_, w_Fz, rAt_ow, kRetO_, w_RetO, fEnd_rt, fEnd_nx, w_Fn, w_noEx, w_arNil, karb_, kar_, w_arCons, kasb_, kas_, w_arSlot, callAt_, kBack_, kCall_, w_Call, pull_nil, pull_fz, pull_sl, pull1_ow, push_nil, push_fz, push_sl, push1_ow, outs_nil, outs_f, outs_o, gN_ap, gTp_ap, gsNil_ap, gsCons_ap, kFor_, w_For, kiR_, w_iR, kiS_l, kiS_t, kiE_l, kiE_t, kiC_s, w_iC, w_iS, w_iE, kRnd_nx, kRnd_ct, kRnd_bk, kRnd_rt, kLcB_, kLcBO_, kLc_, kLcO_, w_Lc, w_LcO, kLcT_, kLcE_, v_add, v_sub, v_mul, v_div, v_mod, v_pow, v_ltA, v_leA, v_gtA, v_geA, v_eqA, v_neA, v_eqAs, v_eqAb, v_plusI, v_max2i, v_min2i, v_one, v_lenL, v_lenT, v_intI, v_tupL, v_tupT, v_lstL, v_lstT, v_sumL, v_sumT, v_maxL, v_minL, u_isN, u_notN, v_isT, v_not, u_neg, v_slL, v_slT, v_ixL, v_ixT, v_r1, v_r2, v_mulW, v_divW, v_gcdI, v_absI, v_sumR, v_foLstT, v_foLstL, v_foLst, v_tupOf, v_lstOf, o_fz, o_ol, o_nil, o_cons, at0, at1, at2, at3, at4, at5, at6, at7, ix_1_0, ix_2_0, ix_2_1, ix_3_0, ix_3_1, ix_3_2, ix_4_0, ix_4_1, ix_4_2, ix_4_3, ix_5_0, ix_5_1, ix_5_2, ix_5_3, ix_5_4, ix_6_0, ix_6_1, ix_6_2, ix_6_3, ix_6_4, ix_6_5, ix_7_0, ix_7_1, ix_7_2, ix_7_3, ix_7_4, ix_7_5, ix_7_6, ix_8_0, ix_8_1, ix_8_2, ix_8_3, ix_8_4, ix_8_5, ix_8_6, ix_8_7, ix_9_0, ix_9_1, ix_9_2, ix_9_3, ix_9_4, ix_9_5, ix_9_6, ix_9_7, ix_9_8, ix_10_0, ix_10_1, ix_10_2, ix_10_3, ix_10_4, ix_10_5, ix_10_6, ix_10_7, ix_10_8, ix_10_9, ix_11_0, ix_11_1, ix_11_2, ix_11_3, ix_11_4, ix_11_5, ix_11_6, ix_11_7, ix_11_8, ix_11_9, ix_11_10, ix_12_0, ix_12_1, ix_12_2, ix_12_3, ix_12_4, ix_12_5, ix_12_6, ix_12_7, ix_12_8, ix_12_9, ix_12_10, ix_12_11, isT_tuple_non, isT_tuple_bl, isT_tuple_int, isT_tuple_str, isT_tuple_tup, isT_tuple_lst, isT_int_non, isT_int_bl, isT_int_int, isT_int_str, isT_int_tup, isT_int_lst, isT_bool_non, isT_bool_bl, isT_bool_int, isT_bool_str, isT_bool_tup, isT_bool_lst, isT_str_non, isT_str_bl, isT_str_int, isT_str_str, isT_str_tup, isT_str_lst, isT_list_non, isT_list_bl, isT_list_int, isT_list_str, isT_list_tup, isT_list_lst, isN_non, isN_bl, isN_int, isN_str, isN_tup, isN_lst, at_ints, sz_iff, big_iff, div_iff, mod_iff, mul_iff, mulW_iff, divW_iff, pow_iff, List.getElem?_cons_succ, List.getElem?_cons_zero, List.set_cons_zero, List.set_cons_succ, List.cons_append, List.nil_append, List.replicate, Option.map_some, Option.bind_some, decide_eq_true_eq, decide_eq_false_iff_not, Option.some.injEq, exists_eq_left', Bool.not_eq_true', Bool.not_eq_false', Bool.not_true, Bool.not_false, Int.not_lt, Int.not_le, true_and, and_true, if_true, List.length_cons, List.length_nil, List.map_cons, List.map_nil, true_imp_iff, false_imp_iff, imp_self, imp_true_iff, not_true_eq_false, not_false_eq_true, List.length_map, Bool.false_eq_true, if_false, Bool.true_eq_false, reduceCtorEq, nos, backs, Sl.keep, decide_true, decide_false, ilist_map, O.lf, List.contains_cons, List.contains_nil, Bool.and_eq_true, beq_self_eq_true, Bool.or_false, Bool.or_true, Bool.true_or, Bool.false_or, and_self, if_pos, gAt_some, ds_fz, Nat.reduceBEq, Nat.reduceEqDiff, ite_self, rangeD_len, numbered_len, Int.toNat_natCast, Nat.reduceAdd, Int.reduceMod, Int.reduceDiv, Int.reduceLT, Int.reduceLE, Int.reduceNeg, Int.reduceMul, Int.reduceAdd, Int.reduceSub, Int.reducePow, Nat.reduceAdd, Nat.reduceLT, Nat.reduceLeDiff, Int.reduceEq, true_or, or_true, Int.reduceToNat, Int.toNat_zero, Int.toNat_one, List.length_set, List.length_append, List.length_singleton, Int.reduceAbs, found_ok hw]

theorem classes_ok {x : D} {fs : List (Str × Int)} {first second : Int} {S L : Nat} (hf : m_by_value [x] = some (.lst (fs.map itD))) (hl : fs.length ≤ 1000000) (hw : wordsOk (fs.map (·.1))) (hSL : S ≤ L) (hS : m_beginning [.lst (fs.map itD), .int first] = some (.int S)) (hL : m_beginning [.lst (fs.map itD), .int second] = some (.int L)) :
    m_classes [x, .int first, .int second] = some (.tup (sortD false ((found fs S L fs.length).map clsD))) := by
  refine w_toP rfl ?_
  unfold δ_classes
  simp only [w_some, w_ofIf, w_ofMap, vAt_fz, w_var, w_C, k1_, w_1, k2b_, k2_, w_2, kA_, w_A, kMb_, kM_, w_M, w_aNil, kaCb_, kaC_, w_aCons, w_oNo, koAt_i, w_oAt, kSlc_, kSlb_, kSl_, w_Sl, ktB_, w_tB, bl_bl, ktT_, w_tTr, ktAnd_, w_tAnd, ktOr_, w_tOr, ktNot_, w_tNot, w_tYes, kIf_, w_If, kAnd_b, kOr_b, w_And, w_Or, ktL_, kbL_, kbF_, lentT_o, lentT_f, lentB_o, lentB_f, w_tBor, w_Bor, flat_int, flat_bl, flat_str, flat_non, kS_nx, kS_bk, kS_ct, kS_rt, w_Seq, kJ_s, w_J, w_Nx, w_Bk, w_Ct, kSet_, w_Set, kAugb_, kAugc_, kAug_, w_Aug, kParb_, kPar_, w_Par, gAt_some, kAsg_, w_Asg, kDrop_, w_Drop, kRet_, w_Ret, w_RetN, kIfS_, w_IfS, kApp_, kApp2_, appAt_, w_App, kPut_, putAt_, kPut2_, kPut3_, w_Put, w_Frz, frz_eq, frz1_ow, frz1_fz, kSetO_, w_SetO, kUp_, w_Up, kO_, w_O, dAt_, kFz_, w_Fz, rAt_ow, kRetO_, w_RetO, fEnd_rt, fEnd_nx, w_Fn, w_noEx, w_arNil, karb_, kar_, w_arCons, kasb_, kas_, w_arSlot, callAt_, kBack_, kCall_, w_Call, pull_nil, pull_fz, pull_sl, pull1_ow, push_nil, push_fz, push_sl, push1_ow, outs_nil, outs_f, outs_o, gN_ap, gTp_ap, gsNil_ap, gsCons_ap, kFor_, w_For, kiR_, w_iR, kiS_l, kiS_t, kiE_l, kiE_t, kiC_s, w_iC, w_iS, w_iE, kRnd_nx, kRnd_ct, kRnd_bk, kRnd_rt, kLcB_, kLcBO_, kLc_, kLcO_, w_Lc, w_LcO, kLcT_, kLcE_, v_add, v_sub, v_mul, v_div, v_mod, v_pow, v_ltA, v_leA, v_gtA, v_geA, v_eqA, v_neA, v_eqAs, v_eqAb, v_plusI, v_max2i, v_min2i, v_one, v_lenL, v_lenT, v_intI, v_tupL, v_tupT, v_lstL, v_lstT, v_sumL, v_sumT, v_maxL, v_minL, u_isN, u_notN, v_isT, v_not, u_neg, v_slL, v_slT, v_ixL, v_ixT, v_r1, v_r2, v_mulW, v_divW, v_gcdI, v_absI, v_sumR, v_foLstT, v_foLstL, v_foLst, v_tupOf, v_lstOf, o_fz, o_ol, o_nil, o_cons, at0, at1, at2, at3, at4, at5, at6, at7, ix_1_0, ix_2_0, ix_2_1, ix_3_0, ix_3_1, ix_3_2, ix_4_0, ix_4_1, ix_4_2, ix_4_3, ix_5_0, ix_5_1, ix_5_2, ix_5_3, ix_5_4, ix_6_0, ix_6_1, ix_6_2, ix_6_3, ix_6_4, ix_6_5, ix_7_0, ix_7_1, ix_7_2, ix_7_3, ix_7_4, ix_7_5, ix_7_6, ix_8_0, ix_8_1, ix_8_2, ix_8_3, ix_8_4, ix_8_5, ix_8_6, ix_8_7, ix_9_0, ix_9_1, ix_9_2, ix_9_3, ix_9_4, ix_9_5, ix_9_6, ix_9_7, ix_9_8, ix_10_0, ix_10_1, ix_10_2, ix_10_3, ix_10_4, ix_10_5, ix_10_6, ix_10_7, ix_10_8, ix_10_9, ix_11_0, ix_11_1, ix_11_2, ix_11_3, ix_11_4, ix_11_5, ix_11_6, ix_11_7, ix_11_8, ix_11_9, ix_11_10, ix_12_0, ix_12_1, ix_12_2, ix_12_3, ix_12_4, ix_12_5, ix_12_6, ix_12_7, ix_12_8, ix_12_9, ix_12_10, ix_12_11, isT_tuple_non, isT_tuple_bl, isT_tuple_int, isT_tuple_str, isT_tuple_tup, isT_tuple_lst, isT_int_non, isT_int_bl, isT_int_int, isT_int_str, isT_int_tup, isT_int_lst, isT_bool_non, isT_bool_bl, isT_bool_int, isT_bool_str, isT_bool_tup, isT_bool_lst, isT_str_non, isT_str_bl, isT_str_int, isT_str_str, isT_str_tup, isT_str_lst, isT_list_non, isT_list_bl, isT_list_int, isT_list_str, isT_list_tup, isT_list_lst, isN_non, isN_bl, isN_int, isN_str, isN_tup, isN_lst, at_ints, sz_iff, big_iff, div_iff, mod_iff, mul_iff, mulW_iff, divW_iff, pow_iff, List.getElem?_cons_succ, List.getElem?_cons_zero, List.set_cons_zero, List.set_cons_succ, List.cons_append, List.nil_append, List.replicate, Option.map_some, Option.bind_some, decide_eq_true_eq, decide_eq_false_iff_not, Option.some.injEq, exists_eq_left', Bool.not_eq_true', Bool.not_eq_false', Bool.not_true, Bool.not_false, Int.not_lt, Int.not_le, true_and, and_true, if_true, List.length_cons, List.length_nil, List.map_cons, List.map_nil, true_imp_iff, false_imp_iff, imp_self, imp_true_iff, not_true_eq_false, not_false_eq_true, List.length_map, Bool.false_eq_true, if_false, Bool.true_eq_false, reduceCtorEq, nos, backs, Sl.keep, decide_true, decide_false, ilist_map, O.lf, List.contains_cons, List.contains_nil, Bool.and_eq_true, beq_self_eq_true, Bool.or_false, Bool.or_true, Bool.true_or, Bool.false_or, and_self, if_pos, gAt_some, ds_fz, Nat.reduceBEq, Nat.reduceEqDiff, ite_self, rangeD_len, numbered_len, Int.toNat_natCast, Nat.reduceAdd, Int.reduceMod, Int.reduceDiv, Int.reduceLT, Int.reduceLE, Int.reduceNeg, Int.reduceMul, Int.reduceAdd, Int.reduceSub, Int.reducePow, Nat.reduceAdd, Nat.reduceLT, Nat.reduceLeDiff, Int.reduceEq, true_or, or_true, Int.reduceToNat, Int.toNat_zero, Int.toNat_one, List.length_set, List.length_append, List.length_singleton, Int.reduceAbs, hf, hS, hL]
  refine w_loopN (fun k Γ => ∃ s6 s7 s8, Γ = [Sl.fz x, .fz (.int first), .fz (.int second), .fz (.lst (fs.map itD)), .fz (.tup [.int S, .int L]), .ow none (.ol (((found fs S L k).map clsD).map O.fz)), s6, s7, s8, .no]) ⟨_, _, _, rfl⟩ ?_ ?_
  · rintro k d Γ hd ⟨s6, s7, s8, rfl⟩
    obtain ⟨y, hy, rfl⟩ := numbered_get hd
    have hk : k < fs.length := by simpa using (List.getElem?_eq_some_iff.mp hy).1
    rw [List.getElem?_map, List.getElem?_eq_getElem hk] at hy
    cases hy
    have e2 : fs.getD k ("", 0) = fs[k] := by rw [List.getD_eq_getElem?_getD, List.getElem?_eq_getElem hk]; rfl
    simp only [w_some, w_ofIf, w_ofMap, vAt_fz, w_var, w_C, k1_, w_1, k2b_, k2_, w_2, kA_, w_A, kMb_, kM_, w_M, w_aNil, kaCb_, kaC_, w_aCons, w_oNo, koAt_i, w_oAt, kSlc_, kSlb_, kSl_, w_Sl, ktB_, w_tB, bl_bl, ktT_, w_tTr, ktAnd_, w_tAnd, ktOr_, w_tOr, ktNot_, w_tNot, w_tYes, kIf_, w_If, kAnd_b, kOr_b, w_And, w_Or, ktL_, kbL_, kbF_, lentT_o, lentT_f, lentB_o, lentB_f, w_tBor, w_Bor, flat_int, flat_bl, flat_str, flat_non, kS_nx, kS_bk, kS_ct, kS_rt, w_Seq, kJ_s, w_J, w_Nx, w_Bk, w_Ct, kSet_, w_Set, kAugb_, kAugc_, kAug_, w_Aug, kParb_, kPar_, w_Par, gAt_some, kAsg_, w_Asg, kDrop_, w_Drop, kRet_, w_Ret, w_RetN, kIfS_, w_IfS, kApp_, kApp2_, appAt_, w_App, kPut_, putAt_, kPut2_, kPut3_, w_Put, w_Frz, frz_eq, frz1_ow, frz1_fz, kSetO_, w_SetO, kUp_, w_Up, kO_, w_O, dAt_, kFz_, w_Fz, rAt_ow, kRetO_, w_RetO, fEnd_rt, fEnd_nx, w_Fn, w_noEx, w_arNil, karb_, kar_, w_arCons, kasb_, kas_, w_arSlot, callAt_, kBack_, kCall_, w_Call, pull_nil, pull_fz, pull_sl, pull1_ow, push_nil, push_fz, push_sl, push1_ow, outs_nil, outs_f, outs_o, gN_ap, gTp_ap, gsNil_ap, gsCons_ap, kFor_, w_For, kiR_, w_iR, kiS_l, kiS_t, kiE_l, kiE_t, kiC_s, w_iC, w_iS, w_iE, kRnd_nx, kRnd_ct, kRnd_bk, kRnd_rt, kLcB_, kLcBO_, kLc_, kLcO_, w_Lc, w_LcO, kLcT_, kLcE_, v_add, v_sub, v_mul, v_div, v_mod, v_pow, v_ltA, v_leA, v_gtA, v_geA, v_eqA, v_neA, v_eqAs, v_eqAb, v_plusI, v_max2i, v_min2i, v_one, v_lenL, v_lenT, v_intI, v_tupL, v_tupT, v_lstL, v_lstT, v_sumL, v_sumT, v_maxL, v_minL, u_isN, u_notN, v_isT, v_not, u_neg, v_slL, v_slT, v_ixL, v_ixT, v_r1, v_r2, v_mulW, v_divW, v_gcdI, v_absI, v_sumR, v_foLstT, v_foLstL, v_foLst, v_tupOf, v_lstOf, o_fz, o_ol, o_nil, o_cons, at0, at1, at2, at3, at4, at5, at6, at7, ix_1_0, ix_2_0, ix_2_1, ix_3_0, ix_3_1, ix_3_2, ix_4_0, ix_4_1, ix_4_2, ix_4_3, ix_5_0, ix_5_1, ix_5_2, ix_5_3, ix_5_4, ix_6_0, ix_6_1, ix_6_2, ix_6_3, ix_6_4, ix_6_5, ix_7_0, ix_7_1, ix_7_2, ix_7_3, ix_7_4, ix_7_5, ix_7_6, ix_8_0, ix_8_1, ix_8_2, ix_8_3, ix_8_4, ix_8_5, ix_8_6, ix_8_7, ix_9_0, ix_9_1, ix_9_2, ix_9_3, ix_9_4, ix_9_5, ix_9_6, ix_9_7, ix_9_8, ix_10_0, ix_10_1, ix_10_2, ix_10_3, ix_10_4, ix_10_5, ix_10_6, ix_10_7, ix_10_8, ix_10_9, ix_11_0, ix_11_1, ix_11_2, ix_11_3, ix_11_4, ix_11_5, ix_11_6, ix_11_7, ix_11_8, ix_11_9, ix_11_10, ix_12_0, ix_12_1, ix_12_2, ix_12_3, ix_12_4, ix_12_5, ix_12_6, ix_12_7, ix_12_8, ix_12_9, ix_12_10, ix_12_11, isT_tuple_non, isT_tuple_bl, isT_tuple_int, isT_tuple_str, isT_tuple_tup, isT_tuple_lst, isT_int_non, isT_int_bl, isT_int_int, isT_int_str, isT_int_tup, isT_int_lst, isT_bool_non, isT_bool_bl, isT_bool_int, isT_bool_str, isT_bool_tup, isT_bool_lst, isT_str_non, isT_str_bl, isT_str_int, isT_str_str, isT_str_tup, isT_str_lst, isT_list_non, isT_list_bl, isT_list_int, isT_list_str, isT_list_tup, isT_list_lst, isN_non, isN_bl, isN_int, isN_str, isN_tup, isN_lst, at_ints, sz_iff, big_iff, div_iff, mod_iff, mul_iff, mulW_iff, divW_iff, pow_iff, List.getElem?_cons_succ, List.getElem?_cons_zero, List.set_cons_zero, List.set_cons_succ, List.cons_append, List.nil_append, List.replicate, Option.map_some, Option.bind_some, decide_eq_true_eq, decide_eq_false_iff_not, Option.some.injEq, exists_eq_left', Bool.not_eq_true', Bool.not_eq_false', Bool.not_true, Bool.not_false, Int.not_lt, Int.not_le, true_and, and_true, if_true, List.length_cons, List.length_nil, List.map_cons, List.map_nil, true_imp_iff, false_imp_iff, imp_self, imp_true_iff, not_true_eq_false, not_false_eq_true, List.length_map, Bool.false_eq_true, if_false, Bool.true_eq_false, reduceCtorEq, nos, backs, Sl.keep, decide_true, decide_false, ilist_map, O.lf, List.contains_cons, List.contains_nil, Bool.and_eq_true, beq_self_eq_true, Bool.or_false, Bool.or_true, Bool.true_or, Bool.false_or, and_self, if_pos, gAt_some, ds_fz, Nat.reduceBEq, Nat.reduceEqDiff, ite_self, rangeD_len, numbered_len, Int.toNat_natCast, Nat.reduceAdd, Int.reduceMod, Int.reduceDiv, Int.reduceLT, Int.reduceLE, Int.reduceNeg, Int.reduceMul, Int.reduceAdd, Int.reduceSub, Int.reducePow, Nat.reduceAdd, Nat.reduceLT, Nat.reduceLeDiff, Int.reduceEq, true_or, or_true, Int.reduceToNat, Int.toNat_zero, Int.toNat_one, List.length_set, List.length_append, List.length_singleton, Int.reduceAbs, itD]
    refine w_lcMap (fun d => match d with
      | .int b => if b ≤ (k : Int) then some (.int b) else none
      | _ => none) ?_ ?_
    · intro d hd
      simp only [List.mem_cons, List.not_mem_nil, or_false] at hd
      rcases hd with rfl | rfl
      all_goals
        simp only [w_some, w_ofIf, w_ofMap, vAt_fz, w_var, w_C, k1_, w_1, k2b_, k2_, w_2, kA_, w_A, kMb_, kM_, w_M, w_aNil, kaCb_, kaC_, w_aCons, w_oNo, koAt_i, w_oAt, kSlc_, kSlb_, kSl_, w_Sl, ktB_, w_tB, bl_bl, ktT_, w_tTr, ktAnd_, w_tAnd, ktOr_, w_tOr, ktNot_, w_tNot, w_tYes, kIf_, w_If, kAnd_b, kOr_b, w_And, w_Or, ktL_, kbL_, kbF_, lentT_o, lentT_f, lentB_o, lentB_f, w_tBor, w_Bor, flat_int, flat_bl, flat_str, flat_non, kS_nx, kS_bk, kS_ct, kS_rt, w_Seq, kJ_s, w_J, w_Nx, w_Bk, w_Ct, kSet_, w_Set, kAugb_, kAugc_, kAug_, w_Aug, kParb_, kPar_, w_Par, gAt_some, kAsg_, w_Asg, kDrop_, w_Drop, kRet_, w_Ret, w_RetN, kIfS_, w_IfS, kApp_, kApp2_, appAt_, w_App, kPut_, putAt_, kPut2_, kPut3_, w_Put, w_Frz, frz_eq, frz1_ow, frz1_fz, kSetO_, w_SetO, kUp_, w_Up, kO_, w_O, dAt_, kFz_, w_Fz, rAt_ow, kRetO_, w_RetO, fEnd_rt, fEnd_nx, w_Fn, w_noEx, w_arNil, karb_, kar_, w_arCons, kasb_, kas_, w_arSlot, callAt_, kBack_, kCall_, w_Call, pull_nil, pull_fz, pull_sl, pull1_ow, push_nil, push_fz, push_sl, push1_ow, outs_nil, outs_f, outs_o, gN_ap, gTp_ap, gsNil_ap, gsCons_ap, kFor_, w_For, kiR_, w_iR, kiS_l, kiS_t, kiE_l, kiE_t, kiC_s, w_iC, w_iS, w_iE, kRnd_nx, kRnd_ct, kRnd_bk, kRnd_rt, kLcB_, kLcBO_, kLc_, kLcO_, w_Lc, w_LcO, kLcT_, kLcE_, v_add, v_sub, v_mul, v_div, v_mod, v_pow, v_ltA, v_leA, v_gtA, v_geA, v_eqA, v_neA, v_eqAs, v_eqAb, v_plusI, v_max2i, v_min2i, v_one, v_lenL, v_lenT, v_intI, v_tupL, v_tupT, v_lstL, v_lstT, v_sumL, v_sumT, v_maxL, v_minL, u_isN, u_notN, v_isT, v_not, u_neg, v_slL, v_slT, v_ixL, v_ixT, v_r1, v_r2, v_mulW, v_divW, v_gcdI, v_absI, v_sumR, v_foLstT, v_foLstL, v_foLst, v_tupOf, v_lstOf, o_fz, o_ol, o_nil, o_cons, at0, at1, at2, at3, at4, at5, at6, at7, ix_1_0, ix_2_0, ix_2_1, ix_3_0, ix_3_1, ix_3_2, ix_4_0, ix_4_1, ix_4_2, ix_4_3, ix_5_0, ix_5_1, ix_5_2, ix_5_3, ix_5_4, ix_6_0, ix_6_1, ix_6_2, ix_6_3, ix_6_4, ix_6_5, ix_7_0, ix_7_1, ix_7_2, ix_7_3, ix_7_4, ix_7_5, ix_7_6, ix_8_0, ix_8_1, ix_8_2, ix_8_3, ix_8_4, ix_8_5, ix_8_6, ix_8_7, ix_9_0, ix_9_1, ix_9_2, ix_9_3, ix_9_4, ix_9_5, ix_9_6, ix_9_7, ix_9_8, ix_10_0, ix_10_1, ix_10_2, ix_10_3, ix_10_4, ix_10_5, ix_10_6, ix_10_7, ix_10_8, ix_10_9, ix_11_0, ix_11_1, ix_11_2, ix_11_3, ix_11_4, ix_11_5, ix_11_6, ix_11_7, ix_11_8, ix_11_9, ix_11_10, ix_12_0, ix_12_1, ix_12_2, ix_12_3, ix_12_4, ix_12_5, ix_12_6, ix_12_7, ix_12_8, ix_12_9, ix_12_10, ix_12_11, isT_tuple_non, isT_tuple_bl, isT_tuple_int, isT_tuple_str, isT_tuple_tup, isT_tuple_lst, isT_int_non, isT_int_bl, isT_int_int, isT_int_str, isT_int_tup, isT_int_lst, isT_bool_non, isT_bool_bl, isT_bool_int, isT_bool_str, isT_bool_tup, isT_bool_lst, isT_str_non, isT_str_bl, isT_str_int, isT_str_str, isT_str_tup, isT_str_lst, isT_list_non, isT_list_bl, isT_list_int, isT_list_str, isT_list_tup, isT_list_lst, isN_non, isN_bl, isN_int, isN_str, isN_tup, isN_lst, at_ints, sz_iff, big_iff, div_iff, mod_iff, mul_iff, mulW_iff, divW_iff, pow_iff, List.getElem?_cons_succ, List.getElem?_cons_zero, List.set_cons_zero, List.set_cons_succ, List.cons_append, List.nil_append, List.replicate, Option.map_some, Option.bind_some, decide_eq_true_eq, decide_eq_false_iff_not, Option.some.injEq, exists_eq_left', Bool.not_eq_true', Bool.not_eq_false', Bool.not_true, Bool.not_false, Int.not_lt, Int.not_le, true_and, and_true, if_true, List.length_cons, List.length_nil, List.map_cons, List.map_nil, true_imp_iff, false_imp_iff, imp_self, imp_true_iff, not_true_eq_false, not_false_eq_true, List.length_map, Bool.false_eq_true, if_false, Bool.true_eq_false, reduceCtorEq, nos, backs, Sl.keep, decide_true, decide_false, ilist_map, O.lf, List.contains_cons, List.contains_nil, Bool.and_eq_true, beq_self_eq_true, Bool.or_false, Bool.or_true, Bool.true_or, Bool.false_or, and_self, if_pos, gAt_some, ds_fz, Nat.reduceBEq, Nat.reduceEqDiff, ite_self, rangeD_len, numbered_len, Int.toNat_natCast, Nat.reduceAdd, Int.reduceMod, Int.reduceDiv, Int.reduceLT, Int.reduceLE, Int.reduceNeg, Int.reduceMul, Int.reduceAdd, Int.reduceSub, Int.reducePow, Nat.reduceAdd, Nat.reduceLT, Nat.reduceLeDiff, Int.reduceEq, true_or, or_true, Int.reduceToNat, Int.toNat_zero, Int.toNat_one, List.length_set, List.length_append, List.length_singleton, Int.reduceAbs]
        exact ⟨fun h => by rw [if_pos h], fun h => by rw [if_neg (by omega)]⟩
    · have c0 : atI [D.str "a", .str "b", .str "c"] ((0 : Nat) : Int) = some (.str "a") := DL.atI_nat rfl
      have c1 : atI [D.str "a", .str "b", .str "c"] ((1 : Nat) : Int) = some (.str "b") := DL.atI_nat rfl
      have c2 : atI [D.str "a", .str "b", .str "c"] ((2 : Nat) : Int) = some (.str "c") := DL.atI_nat rfl
      rcases Nat.lt_or_ge k S with q | q
      · simp only [List.filterMap_cons, List.filterMap_nil, if_neg (show ¬ (S : Int) ≤ (k : Int) by omega), if_neg (show ¬ (L : Int) ≤ (k : Int) by omega), w_some, w_ofIf, w_ofMap, vAt_fz, w_var, w_C, k1_, w_1, k2b_, k2_, w_2, kA_, w_A, kMb_, kM_, w_M, w_aNil, kaCb_, kaC_, w_aCons, w_oNo, koAt_i, w_oAt, kSlc_, kSlb_, kSl_, w_Sl, ktB_, w_tB, bl_bl, ktT_, w_tTr, ktAnd_, w_tAnd, ktOr_, w_tOr, ktNot_, w_tNot, w_tYes, kIf_, w_If, kAnd_b, kOr_b, w_And, w_Or, ktL_, kbL_, kbF_, lentT_o, lentT_f, lentB_o, lentB_f, w_tBor, w_Bor, flat_int, flat_bl, flat_str, flat_non, kS_nx, kS_bk, kS_ct, kS_rt, w_Seq, kJ_s, w_J, w_Nx, w_Bk, w_Ct, kSet_, w_Set, kAugb_, kAugc_, kAug_, w_Aug, kParb_, kPar_, w_Par, gAt_some, kAsg_, w_Asg, kDrop_, w_Drop, kRet_, w_Ret, w_RetN, kIfS_, w_IfS, kApp_, kApp2_, appAt_, w_App, kPut_, putAt_, kPut2_, kPut3_, w_Put, w_Frz, frz_eq, frz1_ow, frz1_fz, kSetO_, w_SetO, kUp_, w_Up, kO_, w_O, dAt_, kFz_, w_Fz, rAt_ow, kRetO_, w_RetO, fEnd_rt, fEnd_nx, w_Fn, w_noEx, w_arNil, karb_, kar_, w_arCons, kasb_, kas_, w_arSlot, callAt_, kBack_, kCall_, w_Call, pull_nil, pull_fz, pull_sl, pull1_ow, push_nil, push_fz, push_sl, push1_ow, outs_nil, outs_f, outs_o, gN_ap, gTp_ap, gsNil_ap, gsCons_ap, kFor_, w_For, kiR_, w_iR, kiS_l, kiS_t, kiE_l, kiE_t, kiC_s, w_iC, w_iS, w_iE, kRnd_nx, kRnd_ct, kRnd_bk, kRnd_rt, kLcB_, kLcBO_, kLc_, kLcO_, w_Lc, w_LcO, kLcT_, kLcE_, v_add, v_sub, v_mul, v_div, v_mod, v_pow, v_ltA, v_leA, v_gtA, v_geA, v_eqA, v_neA, v_eqAs, v_eqAb, v_plusI, v_max2i, v_min2i, v_one, v_lenL, v_lenT, v_intI, v_tupL, v_tupT, v_lstL, v_lstT, v_sumL, v_sumT, v_maxL, v_minL, u_isN, u_notN, v_isT, v_not, u_neg, v_slL, v_slT, v_ixL, v_ixT, v_r1, v_r2, v_mulW, v_divW, v_gcdI, v_absI, v_sumR, v_foLstT, v_foLstL, v_foLst, v_tupOf, v_lstOf, o_fz, o_ol, o_nil, o_cons, at0, at1, at2, at3, at4, at5, at6, at7, ix_1_0, ix_2_0, ix_2_1, ix_3_0, ix_3_1, ix_3_2, ix_4_0, ix_4_1, ix_4_2, ix_4_3, ix_5_0, ix_5_1, ix_5_2, ix_5_3, ix_5_4, ix_6_0, ix_6_1, ix_6_2, ix_6_3, ix_6_4, ix_6_5, ix_7_0, ix_7_1, ix_7_2, ix_7_3, ix_7_4, ix_7_5, ix_7_6, ix_8_0, ix_8_1, ix_8_2, ix_8_3, ix_8_4, ix_8_5, ix_8_6, ix_8_7, ix_9_0, ix_9_1, ix_9_2, ix_9_3, ix_9_4, ix_9_5, ix_9_6, ix_9_7, ix_9_8, ix_10_0, ix_10_1, ix_10_2, ix_10_3, ix_10_4, ix_10_5, ix_10_6, ix_10_7, ix_10_8, ix_10_9, ix_11_0, ix_11_1, ix_11_2, ix_11_3, ix_11_4, ix_11_5, ix_11_6, ix_11_7, ix_11_8, ix_11_9, ix_11_10, ix_12_0, ix_12_1, ix_12_2, ix_12_3, ix_12_4, ix_12_5, ix_12_6, ix_12_7, ix_12_8, ix_12_9, ix_12_10, ix_12_11, isT_tuple_non, isT_tuple_bl, isT_tuple_int, isT_tuple_str, isT_tuple_tup, isT_tuple_lst, isT_int_non, isT_int_bl, isT_int_int, isT_int_str, isT_int_tup, isT_int_lst, isT_bool_non, isT_bool_bl, isT_bool_int, isT_bool_str, isT_bool_tup, isT_bool_lst, isT_str_non, isT_str_bl, isT_str_int, isT_str_str, isT_str_tup, isT_str_lst, isT_list_non, isT_list_bl, isT_list_int, isT_list_str, isT_list_tup, isT_list_lst, isN_non, isN_bl, isN_int, isN_str, isN_tup, isN_lst, at_ints, sz_iff, big_iff, div_iff, mod_iff, mul_iff, mulW_iff, divW_iff, pow_iff, List.getElem?_cons_succ, List.getElem?_cons_zero, List.set_cons_zero, List.set_cons_succ, List.cons_append, List.nil_append, List.replicate, Option.map_some, Option.bind_some, decide_eq_true_eq, decide_eq_false_iff_not, Option.some.injEq, exists_eq_left', Bool.not_eq_true', Bool.not_eq_false', Bool.not_true, Bool.not_false, Int.not_lt, Int.not_le, true_and, and_true, if_true, List.length_cons, List.length_nil, List.map_cons, List.map_nil, true_imp_iff, false_imp_iff, imp_self, imp_true_iff, not_true_eq_false, not_false_eq_true, List.length_map, Bool.false_eq_true, if_false, Bool.true_eq_false, reduceCtorEq, nos, backs, Sl.keep, decide_true, decide_false, ilist_map, O.lf, List.contains_cons, List.contains_nil, Bool.and_eq_true, beq_self_eq_true, Bool.or_false, Bool.or_true, Bool.true_or, Bool.false_or, and_self, if_pos, gAt_some, ds_fz, Nat.reduceBEq, Nat.reduceEqDiff, ite_self, rangeD_len, numbered_len, Int.toNat_natCast, Nat.reduceAdd, Int.reduceMod, Int.reduceDiv, Int.reduceLT, Int.reduceLE, Int.reduceNeg, Int.reduceMul, Int.reduceAdd, Int.reduceSub, Int.reducePow, Nat.reduceAdd, Nat.reduceLT, Nat.reduceLeDiff, Int.reduceEq, true_or, or_true, Int.reduceToNat, Int.toNat_zero, Int.toNat_one, List.length_set, List.length_append, List.length_singleton, Int.reduceAbs, c0, c1, c2, found_succ, found_len, e2, clsD, cls, List.map_append]
        refine ⟨by omega, _, _, _, by rw [if_pos q]⟩
      · rcases Nat.lt_or_ge k L with q2 | q2
        · simp only [List.filterMap_cons, List.filterMap_nil, if_pos (show (S : Int) ≤ (k : Int) by omega), if_neg (show ¬ (L : Int) ≤ (k : Int) by omega), w_some, w_ofIf, w_ofMap, vAt_fz, w_var, w_C, k1_, w_1, k2b_, k2_, w_2, kA_, w_A, kMb_, kM_, w_M, w_aNil, kaCb_, kaC_, w_aCons, w_oNo, koAt_i, w_oAt, kSlc_, kSlb_, kSl_, w_Sl, ktB_, w_tB, bl_bl, ktT_, w_tTr, ktAnd_, w_tAnd, ktOr_, w_tOr, ktNot_, w_tNot, w_tYes, kIf_, w_If, kAnd_b, kOr_b, w_And, w_Or, ktL_, kbL_, kbF_, lentT_o, lentT_f, lentB_o, lentB_f, w_tBor, w_Bor, flat_int, flat_bl, flat_str, flat_non, kS_nx, kS_bk, kS_ct, kS_rt, w_Seq, kJ_s, w_J, w_Nx, w_Bk, w_Ct, kSet_, w_Set, kAugb_, kAugc_, kAug_, w_Aug, kParb_, kPar_, w_Par, gAt_some, kAsg_, w_Asg, kDrop_, w_Drop, kRet_, w_Ret, w_RetN, kIfS_, w_IfS, kApp_, kApp2_, appAt_, w_App, kPut_, putAt_, kPut2_, kPut3_, w_Put, w_Frz, frz_eq, frz1_ow, frz1_fz, kSetO_, w_SetO, kUp_, w_Up, kO_, w_O, dAt_, kFz_, w_Fz, rAt_ow, kRetO_, w_RetO, fEnd_rt, fEnd_nx, w_Fn, w_noEx, w_arNil, karb_, kar_, w_arCons, kasb_, kas_, w_arSlot, callAt_, kBack_, kCall_, w_Call, pull_nil, pull_fz, pull_sl, pull1_ow, push_nil, push_fz, push_sl, push1_ow, outs_nil, outs_f, outs_o, gN_ap, gTp_ap, gsNil_ap, gsCons_ap, kFor_, w_For, kiR_, w_iR, kiS_l, kiS_t, kiE_l, kiE_t, kiC_s, w_iC, w_iS, w_iE, kRnd_nx, kRnd_ct, kRnd_bk, kRnd_rt, kLcB_, kLcBO_, kLc_, kLcO_, w_Lc, w_LcO, kLcT_, kLcE_, v_add, v_sub, v_mul, v_div, v_mod, v_pow, v_ltA, v_leA, v_gtA, v_geA, v_eqA, v_neA, v_eqAs, v_eqAb, v_plusI, v_max2i, v_min2i, v_one, v_lenL, v_lenT, v_intI, v_tupL, v_tupT, v_lstL, v_lstT, v_sumL, v_sumT, v_maxL, v_minL, u_isN, u_notN, v_isT, v_not, u_neg, v_slL, v_slT, v_ixL, v_ixT, v_r1, v_r2, v_mulW, v_divW, v_gcdI, v_absI, v_sumR, v_foLstT, v_foLstL, v_foLst, v_tupOf, v_lstOf, o_fz, o_ol, o_nil, o_cons, at0, at1, at2, at3, at4, at5, at6, at7, ix_1_0, ix_2_0, ix_2_1, ix_3_0, ix_3_1, ix_3_2, ix_4_0, ix_4_1, ix_4_2, ix_4_3, ix_5_0, ix_5_1, ix_5_2, ix_5_3, ix_5_4, ix_6_0, ix_6_1, ix_6_2, ix_6_3, ix_6_4, ix_6_5, ix_7_0, ix_7_1, ix_7_2, ix_7_3, ix_7_4, ix_7_5, ix_7_6, ix_8_0, ix_8_1, ix_8_2, ix_8_3, ix_8_4, ix_8_5, ix_8_6, ix_8_7, ix_9_0, ix_9_1, ix_9_2, ix_9_3, ix_9_4, ix_9_5, ix_9_6, ix_9_7, ix_9_8, ix_10_0, ix_10_1, ix_10_2, ix_10_3, ix_10_4, ix_10_5, ix_10_6, ix_10_7, ix_10_8, ix_10_9, ix_11_0, ix_11_1, ix_11_2, ix_11_3, ix_11_4, ix_11_5, ix_11_6, ix_11_7, ix_11_8, ix_11_9, ix_11_10, ix_12_0, ix_12_1, ix_12_2, ix_12_3, ix_12_4, ix_12_5, ix_12_6, ix_12_7, ix_12_8, ix_12_9, ix_12_10, ix_12_11, isT_tuple_non, isT_tuple_bl, isT_tuple_int, isT_tuple_str, isT_tuple_tup, isT_tuple_lst, isT_int_non, isT_int_bl, isT_int_int, isT_int_str, isT_int_tup, isT_int_lst, isT_bool_non, isT_bool_bl, isT_bool_int, isT_bool_str, isT_bool_tup, isT_bool_lst, isT_str_non, isT_str_bl, isT_str_int, isT_str_str, isT_str_tup, isT_str_lst, isT_list_non, isT_list_bl, isT_list_int, isT_list_str, isT_list_tup, isT_list_lst, isN_non, isN_bl, isN_int, isN_str, isN_tup, isN_lst, at_ints, sz_iff, big_iff, div_iff, mod_iff, mul_iff, mulW_iff, divW_iff, pow_iff, List.getElem?_cons_succ, List.getElem?_cons_zero, List.set_cons_zero, List.set_cons_succ, List.cons_append, List.nil_append, List.replicate, Option.map_some, Option.bind_some, decide_eq_true_eq, decide_eq_false_iff_not, Option.some.injEq, exists_eq_left', Bool.not_eq_true', Bool.not_eq_false', Bool.not_true, Bool.not_false, Int.not_lt, Int.not_le, true_and, and_true, if_true, List.length_cons, List.length_nil, List.map_cons, List.map_nil, true_imp_iff, false_imp_iff, imp_self, imp_true_iff, not_true_eq_false, not_false_eq_true, List.length_map, Bool.false_eq_true, if_false, Bool.true_eq_false, reduceCtorEq, nos, backs, Sl.keep, decide_true, decide_false, ilist_map, O.lf, List.contains_cons, List.contains_nil, Bool.and_eq_true, beq_self_eq_true, Bool.or_false, Bool.or_true, Bool.true_or, Bool.false_or, and_self, if_pos, gAt_some, ds_fz, Nat.reduceBEq, Nat.reduceEqDiff, ite_self, rangeD_len, numbered_len, Int.toNat_natCast, Nat.reduceAdd, Int.reduceMod, Int.reduceDiv, Int.reduceLT, Int.reduceLE, Int.reduceNeg, Int.reduceMul, Int.reduceAdd, Int.reduceSub, Int.reducePow, Nat.reduceAdd, Nat.reduceLT, Nat.reduceLeDiff, Int.reduceEq, true_or, or_true, Int.reduceToNat, Int.toNat_zero, Int.toNat_one, List.length_set, List.length_append, List.length_singleton, Int.reduceAbs, c0, c1, c2, found_succ, found_len, e2, clsD, cls, List.map_append]
          refine ⟨by omega, _, _, _, by rw [if_neg (by omega), if_pos q2]⟩
        · simp only [List.filterMap_cons, List.filterMap_nil, if_pos (show (S : Int) ≤ (k : Int) by omega), if_pos (show (L : Int) ≤ (k : Int) by omega), w_some, w_ofIf, w_ofMap, vAt_fz, w_var, w_C, k1_, w_1, k2b_, k2_, w_2, kA_, w_A, kMb_, kM_, w_M, w_aNil, kaCb_, kaC_, w_aCons, w_oNo, koAt_i, w_oAt, kSlc_, kSlb_, kSl_, w_Sl, ktB_, w_tB, bl_bl, ktT_, w_tTr, ktAnd_, w_tAnd, ktOr_, w_tOr, ktNot_, w_tNot, w_tYes, kIf_, w_If, kAnd_b, kOr_b, w_And, w_Or, ktL_, kbL_, kbF_, lentT_o, lentT_f, lentB_o, lentB_f, w_tBor, w_Bor, flat_int, flat_bl, flat_str, flat_non, kS_nx, kS_bk, kS_ct, kS_rt, w_Seq, kJ_s, w_J, w_Nx, w_Bk, w_Ct, kSet_, w_Set, kAugb_, kAugc_, kAug_, w_Aug, kParb_, kPar_, w_Par, gAt_some, kAsg_, w_Asg, kDrop_, w_Drop, kRet_, w_Ret, w_RetN, kIfS_, w_IfS, kApp_, kApp2_, appAt_, w_App, kPut_, putAt_, kPut2_, kPut3_, w_Put, w_Frz, frz_eq, frz1_ow, frz1_fz, kSetO_, w_SetO, kUp_, w_Up, kO_, w_O, dAt_, kFz_, w_Fz, rAt_ow, kRetO_, w_RetO, fEnd_rt, fEnd_nx, w_Fn, w_noEx, w_arNil, karb_, kar_, w_arCons, kasb_, kas_, w_arSlot, callAt_, kBack_, kCall_, w_Call, pull_nil, pull_fz, pull_sl, pull1_ow, push_nil, push_fz, push_sl, push1_ow, outs_nil, outs_f, outs_o, gN_ap, gTp_ap, gsNil_ap, gsCons_ap, kFor_, w_For, kiR_, w_iR, kiS_l, kiS_t, kiE_l, kiE_t, kiC_s, w_iC, w_iS, w_iE, kRnd_nx, kRnd_ct, kRnd_bk, kRnd_rt, kLcB_, kLcBO_, kLc_, kLcO_, w_Lc, w_LcO, kLcT_, kLcE_, v_add, v_sub, v_mul, v_div, v_mod, v_pow, v_ltA, v_leA, v_gtA, v_geA, v_eqA, v_neA, v_eqAs, v_eqAb, v_plusI, v_max2i, v_min2i, v_one, v_lenL, v_lenT, v_intI, v_tupL, v_tupT, v_lstL, v_lstT, v_sumL, v_sumT, v_maxL, v_minL, u_isN, u_notN, v_isT, v_not, u_neg, v_slL, v_slT, v_ixL, v_ixT, v_r1, v_r2, v_mulW, v_divW, v_gcdI, v_absI, v_sumR, v_foLstT, v_foLstL, v_foLst, v_tupOf, v_lstOf, o_fz, o_ol, o_nil, o_cons, at0, at1, at2, at3, at4, at5, at6, at7, ix_1_0, ix_2_0, ix_2_1, ix_3_0, ix_3_1, ix_3_2, ix_4_0, ix_4_1, ix_4_2, ix_4_3, ix_5_0, ix_5_1, ix_5_2, ix_5_3, ix_5_4, ix_6_0, ix_6_1, ix_6_2, ix_6_3, ix_6_4, ix_6_5, ix_7_0, ix_7_1, ix_7_2, ix_7_3, ix_7_4, ix_7_5, ix_7_6, ix_8_0, ix_8_1, ix_8_2, ix_8_3, ix_8_4, ix_8_5, ix_8_6, ix_8_7, ix_9_0, ix_9_1, ix_9_2, ix_9_3, ix_9_4, ix_9_5, ix_9_6, ix_9_7, ix_9_8, ix_10_0, ix_10_1, ix_10_2, ix_10_3, ix_10_4, ix_10_5, ix_10_6, ix_10_7, ix_10_8, ix_10_9, ix_11_0, ix_11_1, ix_11_2, ix_11_3, ix_11_4, ix_11_5, ix_11_6, ix_11_7, ix_11_8, ix_11_9, ix_11_10, ix_12_0, ix_12_1, ix_12_2, ix_12_3, ix_12_4, ix_12_5, ix_12_6, ix_12_7, ix_12_8, ix_12_9, ix_12_10, ix_12_11, isT_tuple_non, isT_tuple_bl, isT_tuple_int, isT_tuple_str, isT_tuple_tup, isT_tuple_lst, isT_int_non, isT_int_bl, isT_int_int, isT_int_str, isT_int_tup, isT_int_lst, isT_bool_non, isT_bool_bl, isT_bool_int, isT_bool_str, isT_bool_tup, isT_bool_lst, isT_str_non, isT_str_bl, isT_str_int, isT_str_str, isT_str_tup, isT_str_lst, isT_list_non, isT_list_bl, isT_list_int, isT_list_str, isT_list_tup, isT_list_lst, isN_non, isN_bl, isN_int, isN_str, isN_tup, isN_lst, at_ints, sz_iff, big_iff, div_iff, mod_iff, mul_iff, mulW_iff, divW_iff, pow_iff, List.getElem?_cons_succ, List.getElem?_cons_zero, List.set_cons_zero, List.set_cons_succ, List.cons_append, List.nil_append, List.replicate, Option.map_some, Option.bind_some, decide_eq_true_eq, decide_eq_false_iff_not, Option.some.injEq, exists_eq_left', Bool.not_eq_true', Bool.not_eq_false', Bool.not_true, Bool.not_false, Int.not_lt, Int.not_le, true_and, and_true, if_true, List.length_cons, List.length_nil, List.map_cons, List.map_nil, true_imp_iff, false_imp_iff, imp_self, imp_true_iff, not_true_eq_false, not_false_eq_true, List.length_map, Bool.false_eq_true, if_false, Bool.true_eq_false, reduceCtorEq, nos, backs, Sl.keep, decide_true, decide_false, ilist_map, O.lf, List.contains_cons, List.contains_nil, Bool.and_eq_true, beq_self_eq_true, Bool.or_false, Bool.or_true, Bool.true_or, Bool.false_or, and_self, if_pos, gAt_some, ds_fz, Nat.reduceBEq, Nat.reduceEqDiff, ite_self, rangeD_len, numbered_len, Int.toNat_natCast, Nat.reduceAdd, Int.reduceMod, Int.reduceDiv, Int.reduceLT, Int.reduceLE, Int.reduceNeg, Int.reduceMul, Int.reduceAdd, Int.reduceSub, Int.reducePow, Nat.reduceAdd, Nat.reduceLT, Nat.reduceLeDiff, Int.reduceEq, true_or, or_true, Int.reduceToNat, Int.toNat_zero, Int.toNat_one, List.length_set, List.length_append, List.length_singleton, Int.reduceAbs, c0, c1, c2, found_succ, found_len, e2, clsD, cls, List.map_append]
          refine ⟨by omega, _, _, _, by rw [if_neg (by omega), if_neg (by omega)]⟩
  · rintro Γ ⟨s6, s7, s8, rfl⟩
    rw [numbered_len, List.length_map]
    simp only [w_some, w_ofIf, w_ofMap, vAt_fz, w_var, w_C, k1_, w_1, k2b_, k2_, w_2, kA_, w_A, kMb_, kM_, w_M, w_aNil, kaCb_, kaC_, w_aCons, w_oNo, koAt_i, w_oAt, kSlc_, kSlb_, kSl_, w_Sl, ktB_, w_tB, bl_bl, ktT_, w_tTr, ktAnd_, w_tAnd, ktOr_, w_tOr, ktNot_, w_tNot, w_tYes, kIf_, w_If, kAnd_b, kOr_b, w_And, w_Or, ktL_, kbL_, kbF_, lentT_o, lentT_f, lentB_o, lentB_f, w_tBor, w_Bor, flat_int, flat_bl, flat_str, flat_non, kS_nx, kS_bk, kS_ct, kS_rt, w_Seq, kJ_s, w_J, w_Nx, w_Bk, w_Ct, kSet_, w_Set, kAugb_, kAugc_, kAug_, w_Aug, kParb_, kPar_, w_Par, gAt_some, kAsg_, w_Asg, kDrop_, w_Drop, kRet_, w_Ret, w_RetN, kIfS_, w_IfS, kApp_, kApp2_, appAt_, w_App, kPut_, putAt_, kPut2_, kPut3_, w_Put, w_Frz, frz_eq, frz1_ow, frz1_fz, kSetO_, w_SetO, kUp_, w_Up, kO_, w_O, dAt_, kFz_, w_Fz, rAt_ow, kRetO_, w_RetO, fEnd_rt, fEnd_nx, w_Fn, w_noEx, w_arNil, karb_, kar_, w_arCons, kasb_, kas_, w_arSlot, callAt_, kBack_, kCall_, w_Call, pull_nil, pull_fz, pull_sl, pull1_ow, push_nil, push_fz, push_sl, push1_ow, outs_nil, outs_f, outs_o, gN_ap, gTp_ap, gsNil_ap, gsCons_ap, kFor_, w_For, kiR_, w_iR, kiS_l, kiS_t, kiE_l, kiE_t, kiC_s, w_iC, w_iS, w_iE, kRnd_nx, kRnd_ct, kRnd_bk, kRnd_rt, kLcB_, kLcBO_, kLc_, kLcO_, w_Lc, w_LcO, kLcT_, kLcE_, v_add, v_sub, v_mul, v_div, v_mod, v_pow, v_ltA, v_leA, v_gtA, v_geA, v_eqA, v_neA, v_eqAs, v_eqAb, v_plusI, v_max2i, v_min2i, v_one, v_lenL, v_lenT, v_intI, v_tupL, v_tupT, v_lstL, v_lstT, v_sumL, v_sumT, v_maxL, v_minL, u_isN, u_notN, v_isT, v_not, u_neg, v_slL, v_slT, v_ixL, v_ixT, v_r1, v_r2, v_mulW, v_divW, v_gcdI, v_absI, v_sumR, v_foLstT, v_foLstL, v_foLst, v_tupOf, v_lstOf, o_fz, o_ol, o_nil, o_cons, at0, at1, at2, at3, at4, at5, at6, at7, ix_1_0, ix_2_0, ix_2_1, ix_3_0, ix_3_1, ix_3_2, ix_4_0, ix_4_1, ix_4_2, ix_4_3, ix_5_0, ix_5_1, ix_5_2, ix_5_3, ix_5_4, ix_6_0, ix_6_1, ix_6_2, ix_6_3, ix_6_4, ix_6_5, ix_7_0, ix_7_1, ix_7_2, ix_7_3, ix_7_4, ix_7_5, ix_7_6, ix_8_0, ix_8_1, ix_8_2, ix_8_3, ix_8_4, ix_8_5, ix_8_6, ix_8_7, ix_9_0, ix_9_1, ix_9_2, ix_9_3, ix_9_4, ix_9_5, ix_9_6, ix_9_7, ix_9_8, ix_10_0, ix_10_1, ix_10_2, ix_10_3, ix_10_4, ix_10_5, ix_10_6, ix_10_7, ix_10_8, ix_10_9, ix_11_0, ix_11_1, ix_11_2, ix_11_3, ix_11_4, ix_11_5, ix_11_6, ix_11_7, ix_11_8, ix_11_9, ix_11_10, ix_12_0, ix_12_1, ix_12_2, ix_12_3, ix_12_4, ix_12_5, ix_12_6, ix_12_7, ix_12_8, ix_12_9, ix_12_10, ix_12_11, isT_tuple_non, isT_tuple_bl, isT_tuple_int, isT_tuple_str, isT_tuple_tup, isT_tuple_lst, isT_int_non, isT_int_bl, isT_int_int, isT_int_str, isT_int_tup, isT_int_lst, isT_bool_non, isT_bool_bl, isT_bool_int, isT_bool_str, isT_bool_tup, isT_bool_lst, isT_str_non, isT_str_bl, isT_str_int, isT_str_str, isT_str_tup, isT_str_lst, isT_list_non, isT_list_bl, isT_list_int, isT_list_str, isT_list_tup, isT_list_lst, isN_non, isN_bl, isN_int, isN_str, isN_tup, isN_lst, at_ints, sz_iff, big_iff, div_iff, mod_iff, mul_iff, mulW_iff, divW_iff, pow_iff, List.getElem?_cons_succ, List.getElem?_cons_zero, List.set_cons_zero, List.set_cons_succ, List.cons_append, List.nil_append, List.replicate, Option.map_some, Option.bind_some, decide_eq_true_eq, decide_eq_false_iff_not, Option.some.injEq, exists_eq_left', Bool.not_eq_true', Bool.not_eq_false', Bool.not_true, Bool.not_false, Int.not_lt, Int.not_le, true_and, and_true, if_true, List.length_cons, List.length_nil, List.map_cons, List.map_nil, true_imp_iff, false_imp_iff, imp_self, imp_true_iff, not_true_eq_false, not_false_eq_true, List.length_map, Bool.false_eq_true, if_false, Bool.true_eq_false, reduceCtorEq, nos, backs, Sl.keep, decide_true, decide_false, ilist_map, O.lf, List.contains_cons, List.contains_nil, Bool.and_eq_true, beq_self_eq_true, Bool.or_false, Bool.or_true, Bool.true_or, Bool.false_or, and_self, if_pos, gAt_some, ds_fz, Nat.reduceBEq, Nat.reduceEqDiff, ite_self, rangeD_len, numbered_len, Int.toNat_natCast, Nat.reduceAdd, Int.reduceMod, Int.reduceDiv, Int.reduceLT, Int.reduceLE, Int.reduceNeg, Int.reduceMul, Int.reduceAdd, Int.reduceSub, Int.reducePow, Nat.reduceAdd, Nat.reduceLT, Nat.reduceLeDiff, Int.reduceEq, true_or, or_true, Int.reduceToNat, Int.toNat_zero, Int.toNat_one, List.length_set, List.length_append, List.length_singleton, Int.reduceAbs, found_ok hw]

/-! ### the items drawn -/
structure Items (ps : List (Str × Int)) : Prop where
  w : Words (ps.map (·.1))
  v : ∀ p ∈ ps, 0 ≤ p.2 ∧ p.2 < 100000
  l : ps.length < 600
theorem items_ok {o : O} {m : Nat} (ho : FeedOk o) (hm : 2 ≤ m) (hm2 : m < 600) : Okw (m_x_law_items [.ow (some 0) o, .fz (.int m)]) (fun r Γ => ∃ ps o', r = .fz (.lst (ps.map itD)) ∧ Items ps ∧ ps.length ≤ m ∧ FeedOk o' ∧ Γ = [.ow (some 0) o', .fz (.int m)]) := by
  refine ⟨?_⟩
  unfold m_x_law_items δ_x_law_items
  simp only [draw_eq, words_eq]
  simp only [w_some, w_ofIf, w_ofMap, vAt_fz, w_var, w_C, k1_, w_1, k2b_, k2_, w_2, kA_, w_A, kMb_, kM_, w_M, w_aNil, kaCb_, kaC_, w_aCons, w_oNo, koAt_i, w_oAt, kSlc_, kSlb_, kSl_, w_Sl, ktB_, w_tB, bl_bl, ktT_, w_tTr, ktAnd_, w_tAnd, ktOr_, w_tOr, ktNot_, w_tNot, w_tYes, kIf_, w_If, kAnd_b, kOr_b, w_And, w_Or, ktL_, kbL_, kbF_, lentT_o, lentT_f, lentB_o, lentB_f, w_tBor, w_Bor, flat_int, flat_bl, flat_str, flat_non, kS_nx, kS_bk, kS_ct, kS_rt, w_Seq, kJ_s, w_J, w_Nx, w_Bk, w_Ct, kSet_, w_Set, kAugb_, kAugc_, kAug_, w_Aug, kParb_, kPar_, w_Par, gAt_some, kAsg_, w_Asg, kDrop_, w_Drop, kRet_, w_Ret, w_RetN, kIfS_, w_IfS, kApp_, kApp2_, appAt_, w_App, kPut_, putAt_, kPut2_, kPut3_, w_Put, w_Frz, frz_eq, frz1_ow, frz1_fz, kSetO_, w_SetO, kUp_, w_Up, kO_, w_O, dAt_, kFz_, w_Fz, rAt_ow, kRetO_, w_RetO, fEnd_rt, fEnd_nx, w_Fn, w_noEx, w_arNil, karb_, kar_, w_arCons, kasb_, kas_, w_arSlot, callAt_, kBack_, kCall_, w_Call, pull_nil, pull_fz, pull_sl, pull1_ow, push_nil, push_fz, push_sl, push1_ow, outs_nil, outs_f, outs_o, gN_ap, gTp_ap, gsNil_ap, gsCons_ap, kFor_, w_For, kiR_, w_iR, kiS_l, kiS_t, kiE_l, kiE_t, kiC_s, w_iC, w_iS, w_iE, kRnd_nx, kRnd_ct, kRnd_bk, kRnd_rt, kLcB_, kLcBO_, kLc_, kLcO_, w_Lc, w_LcO, kLcT_, kLcE_, v_add, v_sub, v_mul, v_div, v_mod, v_pow, v_ltA, v_leA, v_gtA, v_geA, v_eqA, v_neA, v_eqAs, v_eqAb, v_plusI, v_max2i, v_min2i, v_one, v_lenL, v_lenT, v_intI, v_tupL, v_tupT, v_lstL, v_lstT, v_sumL, v_sumT, v_maxL, v_minL, u_isN, u_notN, v_isT, v_not, u_neg, v_slL, v_slT, v_ixL, v_ixT, v_r1, v_r2, v_mulW, v_divW, v_gcdI, v_absI, v_sumR, v_foLstT, v_foLstL, v_foLst, v_tupOf, v_lstOf, o_fz, o_ol, o_nil, o_cons, at0, at1, at2, at3, at4, at5, at6, at7, ix_1_0, ix_2_0, ix_2_1, ix_3_0, ix_3_1, ix_3_2, ix_4_0, ix_4_1, ix_4_2, ix_4_3, ix_5_0, ix_5_1, ix_5_2, ix_5_3, ix_5_4, ix_6_0, ix_6_1, ix_6_2, ix_6_3, ix_6_4, ix_6_5, ix_7_0, ix_7_1, ix_7_2, ix_7_3, ix_7_4, ix_7_5, ix_7_6, ix_8_0, ix_8_1, ix_8_2, ix_8_3, ix_8_4, ix_8_5, ix_8_6, ix_8_7, ix_9_0, ix_9_1, ix_9_2, ix_9_3, ix_9_4, ix_9_5, ix_9_6, ix_9_7, ix_9_8, ix_10_0, ix_10_1, ix_10_2, ix_10_3, ix_10_4, ix_10_5, ix_10_6, ix_10_7, ix_10_8, ix_10_9, ix_11_0, ix_11_1, ix_11_2, ix_11_3, ix_11_4, ix_11_5, ix_11_6, ix_11_7, ix_11_8, ix_11_9, ix_11_10, ix_12_0, ix_12_1, ix_12_2, ix_12_3, ix_12_4, ix_12_5, ix_12_6, ix_12_7, ix_12_8, ix_12_9, ix_12_10, ix_12_11, isT_tuple_non, isT_tuple_bl, isT_tuple_int, isT_tuple_str, isT_tuple_tup, isT_tuple_lst, isT_int_non, isT_int_bl, isT_int_int, isT_int_str, isT_int_tup, isT_int_lst, isT_bool_non, isT_bool_bl, isT_bool_int, isT_bool_str, isT_bool_tup, isT_bool_lst, isT_str_non, isT_str_bl, isT_str_int, isT_str_str, isT_str_tup, isT_str_lst, isT_list_non, isT_list_bl, isT_list_int, isT_list_str, isT_list_tup, isT_list_lst, isN_non, isN_bl, isN_int, isN_str, isN_tup, isN_lst, at_ints, sz_iff, big_iff, div_iff, mod_iff, mul_iff, mulW_iff, divW_iff, pow_iff, List.getElem?_cons_succ, List.getElem?_cons_zero, List.set_cons_zero, List.set_cons_succ, List.cons_append, List.nil_append, List.replicate, Option.map_some, Option.bind_some, decide_eq_true_eq, decide_eq_false_iff_not, Option.some.injEq, exists_eq_left', Bool.not_eq_true', Bool.not_eq_false', Bool.not_true, Bool.not_false, Int.not_lt, Int.not_le, true_and, and_true, if_true, List.length_cons, List.length_nil, List.map_cons, List.map_nil, true_imp_iff, false_imp_iff, imp_self, imp_true_iff, not_true_eq_false, not_false_eq_true, List.length_map, Bool.false_eq_true, if_false, Bool.true_eq_false, reduceCtorEq, nos, backs, Sl.keep, decide_true, decide_false, ilist_map, O.lf, List.contains_cons, List.contains_nil, Bool.and_eq_true, beq_self_eq_true, Bool.or_false, Bool.or_true, Bool.true_or, Bool.false_or, and_self, if_pos, gAt_some, ds_fz, Nat.reduceBEq, Nat.reduceEqDiff, ite_self, rangeD_len, numbered_len, Int.toNat_natCast, Nat.reduceAdd, Int.reduceMod, Int.reduceDiv, Int.reduceLT, Int.reduceLE, Int.reduceNeg, Int.reduceMul, Int.reduceAdd, Int.reduceSub, Int.reducePow, Nat.reduceAdd, Nat.reduceLT, Nat.reduceLeDiff, Int.reduceEq, true_or, or_true, Int.reduceToNat, Int.toNat_zero, Int.toNat_one, List.length_set, List.length_append, List.length_singleton, Int.reduceAbs]
  refine draw_wp (by assumption) (by omega) (by omega) fun x1 o1 hx1 kx1 ho1 => ?_; simp only [w_some, w_ofIf, w_ofMap, vAt_fz, w_var, w_C, k1_, w_1, k2b_, k2_, w_2, kA_, w_A, kMb_, kM_, w_M, w_aNil, kaCb_, kaC_, w_aCons, w_oNo, koAt_i, w_oAt, kSlc_, kSlb_, kSl_, w_Sl, ktB_, w_tB, bl_bl, ktT_, w_tTr, ktAnd_, w_tAnd, ktOr_, w_tOr, ktNot_, w_tNot, w_tYes, kIf_, w_If, kAnd_b, kOr_b, w_And, w_Or, ktL_, kbL_, kbF_, lentT_o, lentT_f, lentB_o, lentB_f, w_tBor, w_Bor, flat_int, flat_bl, flat_str, flat_non, kS_nx, kS_bk, kS_ct, kS_rt, w_Seq, kJ_s, w_J, w_Nx, w_Bk, w_Ct, kSet_, w_Set, kAugb_, kAugc_, kAug_, w_Aug, kParb_, kPar_, w_Par, gAt_some, kAsg_, w_Asg, kDrop_, w_Drop, kRet_, w_Ret, w_RetN, kIfS_, w_IfS, kApp_, kApp2_, appAt_, w_App, kPut_, putAt_, kPut2_, kPut3_, w_Put, w_Frz, frz_eq, frz1_ow, frz1_fz, kSetO_, w_SetO, kUp_, w_Up, kO_, w_O, dAt_, kFz_, w_Fz, rAt_ow, kRetO_, w_RetO, fEnd_rt, fEnd_nx, w_Fn, w_noEx, w_arNil, karb_, kar_, w_arCons, kasb_, kas_, w_arSlot, callAt_, kBack_, kCall_, w_Call, pull_nil, pull_fz, pull_sl, pull1_ow, push_nil, push_fz, push_sl, push1_ow, outs_nil, outs_f, outs_o, gN_ap, gTp_ap, gsNil_ap, gsCons_ap, kFor_, w_For, kiR_, w_iR, kiS_l, kiS_t, kiE_l, kiE_t, kiC_s, w_iC, w_iS, w_iE, kRnd_nx, kRnd_ct, kRnd_bk, kRnd_rt, kLcB_, kLcBO_, kLc_, kLcO_, w_Lc, w_LcO, kLcT_, kLcE_, v_add, v_sub, v_mul, v_div, v_mod, v_pow, v_ltA, v_leA, v_gtA, v_geA, v_eqA, v_neA, v_eqAs, v_eqAb, v_plusI, v_max2i, v_min2i, v_one, v_lenL, v_lenT, v_intI, v_tupL, v_tupT, v_lstL, v_lstT, v_sumL, v_sumT, v_maxL, v_minL, u_isN, u_notN, v_isT, v_not, u_neg, v_slL, v_slT, v_ixL, v_ixT, v_r1, v_r2, v_mulW, v_divW, v_gcdI, v_absI, v_sumR, v_foLstT, v_foLstL, v_foLst, v_tupOf, v_lstOf, o_fz, o_ol, o_nil, o_cons, at0, at1, at2, at3, at4, at5, at6, at7, ix_1_0, ix_2_0, ix_2_1, ix_3_0, ix_3_1, ix_3_2, ix_4_0, ix_4_1, ix_4_2, ix_4_3, ix_5_0, ix_5_1, ix_5_2, ix_5_3, ix_5_4, ix_6_0, ix_6_1, ix_6_2, ix_6_3, ix_6_4, ix_6_5, ix_7_0, ix_7_1, ix_7_2, ix_7_3, ix_7_4, ix_7_5, ix_7_6, ix_8_0, ix_8_1, ix_8_2, ix_8_3, ix_8_4, ix_8_5, ix_8_6, ix_8_7, ix_9_0, ix_9_1, ix_9_2, ix_9_3, ix_9_4, ix_9_5, ix_9_6, ix_9_7, ix_9_8, ix_10_0, ix_10_1, ix_10_2, ix_10_3, ix_10_4, ix_10_5, ix_10_6, ix_10_7, ix_10_8, ix_10_9, ix_11_0, ix_11_1, ix_11_2, ix_11_3, ix_11_4, ix_11_5, ix_11_6, ix_11_7, ix_11_8, ix_11_9, ix_11_10, ix_12_0, ix_12_1, ix_12_2, ix_12_3, ix_12_4, ix_12_5, ix_12_6, ix_12_7, ix_12_8, ix_12_9, ix_12_10, ix_12_11, isT_tuple_non, isT_tuple_bl, isT_tuple_int, isT_tuple_str, isT_tuple_tup, isT_tuple_lst, isT_int_non, isT_int_bl, isT_int_int, isT_int_str, isT_int_tup, isT_int_lst, isT_bool_non, isT_bool_bl, isT_bool_int, isT_bool_str, isT_bool_tup, isT_bool_lst, isT_str_non, isT_str_bl, isT_str_int, isT_str_str, isT_str_tup, isT_str_lst, isT_list_non, isT_list_bl, isT_list_int, isT_list_str, isT_list_tup, isT_list_lst, isN_non, isN_bl, isN_int, isN_str, isN_tup, isN_lst, at_ints, sz_iff, big_iff, div_iff, mod_iff, mul_iff, mulW_iff, divW_iff, pow_iff, List.getElem?_cons_succ, List.getElem?_cons_zero, List.set_cons_zero, List.set_cons_succ, List.cons_append, List.nil_append, List.replicate, Option.map_some, Option.bind_some, decide_eq_true_eq, decide_eq_false_iff_not, Option.some.injEq, exists_eq_left', Bool.not_eq_true', Bool.not_eq_false', Bool.not_true, Bool.not_false, Int.not_lt, Int.not_le, true_and, and_true, if_true, List.length_cons, List.length_nil, List.map_cons, List.map_nil, true_imp_iff, false_imp_iff, imp_self, imp_true_iff, not_true_eq_false, not_false_eq_true, List.length_map, Bool.false_eq_true, if_false, Bool.true_eq_false, reduceCtorEq, nos, backs, Sl.keep, decide_true, decide_false, ilist_map, O.lf, List.contains_cons, List.contains_nil, Bool.and_eq_true, beq_self_eq_true, Bool.or_false, Bool.or_true, Bool.true_or, Bool.false_or, and_self, if_pos, gAt_some, ds_fz, Nat.reduceBEq, Nat.reduceEqDiff, ite_self, rangeD_len, numbered_len, Int.toNat_natCast, Nat.reduceAdd, Int.reduceMod, Int.reduceDiv, Int.reduceLT, Int.reduceLE, Int.reduceNeg, Int.reduceMul, Int.reduceAdd, Int.reduceSub, Int.reducePow, Nat.reduceAdd, Nat.reduceLT, Nat.reduceLeDiff, Int.reduceEq, true_or, or_true, Int.reduceToNat, Int.toNat_zero, Int.toNat_one, List.length_set, List.length_append, List.length_singleton, Int.reduceAbs]
  refine draw_wp (by assumption) (by omega) (by omega) fun x2 o2 hx2 kx2 ho2 => ?_; simp only [w_some, w_ofIf, w_ofMap, vAt_fz, w_var, w_C, k1_, w_1, k2b_, k2_, w_2, kA_, w_A, kMb_, kM_, w_M, w_aNil, kaCb_, kaC_, w_aCons, w_oNo, koAt_i, w_oAt, kSlc_, kSlb_, kSl_, w_Sl, ktB_, w_tB, bl_bl, ktT_, w_tTr, ktAnd_, w_tAnd, ktOr_, w_tOr, ktNot_, w_tNot, w_tYes, kIf_, w_If, kAnd_b, kOr_b, w_And, w_Or, ktL_, kbL_, kbF_, lentT_o, lentT_f, lentB_o, lentB_f, w_tBor, w_Bor, flat_int, flat_bl, flat_str, flat_non, kS_nx, kS_bk, kS_ct, kS_rt, w_Seq, kJ_s, w_J, w_Nx, w_Bk, w_Ct, kSet_, w_Set, kAugb_, kAugc_, kAug_, w_Aug, kParb_, kPar_, w_Par, gAt_some, kAsg_, w_Asg, kDrop_, w_Drop, kRet_, w_Ret, w_RetN, kIfS_, w_IfS, kApp_, kApp2_, appAt_, w_App, kPut_, putAt_, kPut2_, kPut3_, w_Put, w_Frz, frz_eq, frz1_ow, frz1_fz, kSetO_, w_SetO, kUp_, w_Up, kO_, w_O, dAt_, kFz_, w_Fz, rAt_ow, kRetO_, w_RetO, fEnd_rt, fEnd_nx, w_Fn, w_noEx, w_arNil, karb_, kar_, w_arCons, kasb_, kas_, w_arSlot, callAt_, kBack_, kCall_, w_Call, pull_nil, pull_fz, pull_sl, pull1_ow, push_nil, push_fz, push_sl, push1_ow, outs_nil, outs_f, outs_o, gN_ap, gTp_ap, gsNil_ap, gsCons_ap, kFor_, w_For, kiR_, w_iR, kiS_l, kiS_t, kiE_l, kiE_t, kiC_s, w_iC, w_iS, w_iE, kRnd_nx, kRnd_ct, kRnd_bk, kRnd_rt, kLcB_, kLcBO_, kLc_, kLcO_, w_Lc, w_LcO, kLcT_, kLcE_, v_add, v_sub, v_mul, v_div, v_mod, v_pow, v_ltA, v_leA, v_gtA, v_geA, v_eqA, v_neA, v_eqAs, v_eqAb, v_plusI, v_max2i, v_min2i, v_one, v_lenL, v_lenT, v_intI, v_tupL, v_tupT, v_lstL, v_lstT, v_sumL, v_sumT, v_maxL, v_minL, u_isN, u_notN, v_isT, v_not, u_neg, v_slL, v_slT, v_ixL, v_ixT, v_r1, v_r2, v_mulW, v_divW, v_gcdI, v_absI, v_sumR, v_foLstT, v_foLstL, v_foLst, v_tupOf, v_lstOf, o_fz, o_ol, o_nil, o_cons, at0, at1, at2, at3, at4, at5, at6, at7, ix_1_0, ix_2_0, ix_2_1, ix_3_0, ix_3_1, ix_3_2, ix_4_0, ix_4_1, ix_4_2, ix_4_3, ix_5_0, ix_5_1, ix_5_2, ix_5_3, ix_5_4, ix_6_0, ix_6_1, ix_6_2, ix_6_3, ix_6_4, ix_6_5, ix_7_0, ix_7_1, ix_7_2, ix_7_3, ix_7_4, ix_7_5, ix_7_6, ix_8_0, ix_8_1, ix_8_2, ix_8_3, ix_8_4, ix_8_5, ix_8_6, ix_8_7, ix_9_0, ix_9_1, ix_9_2, ix_9_3, ix_9_4, ix_9_5, ix_9_6, ix_9_7, ix_9_8, ix_10_0, ix_10_1, ix_10_2, ix_10_3, ix_10_4, ix_10_5, ix_10_6, ix_10_7, ix_10_8, ix_10_9, ix_11_0, ix_11_1, ix_11_2, ix_11_3, ix_11_4, ix_11_5, ix_11_6, ix_11_7, ix_11_8, ix_11_9, ix_11_10, ix_12_0, ix_12_1, ix_12_2, ix_12_3, ix_12_4, ix_12_5, ix_12_6, ix_12_7, ix_12_8, ix_12_9, ix_12_10, ix_12_11, isT_tuple_non, isT_tuple_bl, isT_tuple_int, isT_tuple_str, isT_tuple_tup, isT_tuple_lst, isT_int_non, isT_int_bl, isT_int_int, isT_int_str, isT_int_tup, isT_int_lst, isT_bool_non, isT_bool_bl, isT_bool_int, isT_bool_str, isT_bool_tup, isT_bool_lst, isT_str_non, isT_str_bl, isT_str_int, isT_str_str, isT_str_tup, isT_str_lst, isT_list_non, isT_list_bl, isT_list_int, isT_list_str, isT_list_tup, isT_list_lst, isN_non, isN_bl, isN_int, isN_str, isN_tup, isN_lst, at_ints, sz_iff, big_iff, div_iff, mod_iff, mul_iff, mulW_iff, divW_iff, pow_iff, List.getElem?_cons_succ, List.getElem?_cons_zero, List.set_cons_zero, List.set_cons_succ, List.cons_append, List.nil_append, List.replicate, Option.map_some, Option.bind_some, decide_eq_true_eq, decide_eq_false_iff_not, Option.some.injEq, exists_eq_left', Bool.not_eq_true', Bool.not_eq_false', Bool.not_true, Bool.not_false, Int.not_lt, Int.not_le, true_and, and_true, if_true, List.length_cons, List.length_nil, List.map_cons, List.map_nil, true_imp_iff, false_imp_iff, imp_self, imp_true_iff, not_true_eq_false, not_false_eq_true, List.length_map, Bool.false_eq_true, if_false, Bool.true_eq_false, reduceCtorEq, nos, backs, Sl.keep, decide_true, decide_false, ilist_map, O.lf, List.contains_cons, List.contains_nil, Bool.and_eq_true, beq_self_eq_true, Bool.or_false, Bool.or_true, Bool.true_or, Bool.false_or, and_self, if_pos, gAt_some, ds_fz, Nat.reduceBEq, Nat.reduceEqDiff, ite_self, rangeD_len, numbered_len, Int.toNat_natCast, Nat.reduceAdd, Int.reduceMod, Int.reduceDiv, Int.reduceLT, Int.reduceLE, Int.reduceNeg, Int.reduceMul, Int.reduceAdd, Int.reduceSub, Int.reducePow, Nat.reduceAdd, Nat.reduceLT, Nat.reduceLeDiff, Int.reduceEq, true_or, or_true, Int.reduceToNat, Int.toNat_zero, Int.toNat_one, List.length_set, List.length_append, List.length_singleton, Int.reduceAbs]
  obtain ⟨d3, e3, n, rfl, hn⟩ := atI_all (xs := [D.int 1, D.int 2, D.int x1, D.int m]) (fun d => ∃ s : Nat, d = .int s ∧ s ≤ m) hx2 (by simpa using kx2) (by
    intro x hx
    simp only [List.mem_cons, List.not_mem_nil, or_false] at hx
    rcases hx with rfl | rfl | rfl | rfl
    · exact ⟨1, rfl, by omega⟩
    · exact ⟨2, rfl, by omega⟩
    · exact ⟨x1.toNat, by rw [Int.toNat_of_nonneg hx1], by omega⟩
    · exact ⟨m, rfl, by omega⟩)
  simp only [e3, w_some, w_ofIf, w_ofMap, vAt_fz, w_var, w_C, k1_, w_1, k2b_, k2_, w_2, kA_, w_A, kMb_, kM_, w_M, w_aNil, kaCb_, kaC_, w_aCons, w_oNo, koAt_i, w_oAt, kSlc_, kSlb_, kSl_, w_Sl, ktB_, w_tB, bl_bl, ktT_, w_tTr, ktAnd_, w_tAnd, ktOr_, w_tOr, ktNot_, w_tNot, w_tYes, kIf_, w_If, kAnd_b, kOr_b, w_And, w_Or, ktL_, kbL_, kbF_, lentT_o, lentT_f, lentB_o, lentB_f, w_tBor, w_Bor, flat_int, flat_bl, flat_str, flat_non, kS_nx, kS_bk, kS_ct, kS_rt, w_Seq, kJ_s, w_J, w_Nx, w_Bk, w_Ct, kSet_, w_Set, kAugb_, kAugc_, kAug_, w_Aug, kParb_, kPar_, w_Par, gAt_some, kAsg_, w_Asg, kDrop_, w_Drop, kRet_, w_Ret, w_RetN, kIfS_, w_IfS, kApp_, kApp2_, appAt_, w_App, kPut_, putAt_, kPut2_, kPut3_, w_Put, w_Frz, frz_eq, frz1_ow, frz1_fz, kSetO_, w_SetO, kUp_, w_Up, kO_, w_O, dAt_, kFz_, w_Fz, rAt_ow, kRetO_, w_RetO, fEnd_rt, fEnd_nx, w_Fn, w_noEx, w_arNil, karb_, kar_, w_arCons, kasb_, kas_, w_arSlot, callAt_, kBack_, kCall_, w_Call, pull_nil, pull_fz, pull_sl, pull1_ow, push_nil, push_fz, push_sl, push1_ow, outs_nil, outs_f, outs_o, gN_ap, gTp_ap, gsNil_ap, gsCons_ap, kFor_, w_For, kiR_, w_iR, kiS_l, kiS_t, kiE_l, kiE_t, kiC_s, w_iC, w_iS, w_iE, kRnd_nx, kRnd_ct, kRnd_bk, kRnd_rt, kLcB_, kLcBO_, kLc_, kLcO_, w_Lc, w_LcO, kLcT_, kLcE_, v_add, v_sub, v_mul, v_div, v_mod, v_pow, v_ltA, v_leA, v_gtA, v_geA, v_eqA, v_neA, v_eqAs, v_eqAb, v_plusI, v_max2i, v_min2i, v_one, v_lenL, v_lenT, v_intI, v_tupL, v_tupT, v_lstL, v_lstT, v_sumL, v_sumT, v_maxL, v_minL, u_isN, u_notN, v_isT, v_not, u_neg, v_slL, v_slT, v_ixL, v_ixT, v_r1, v_r2, v_mulW, v_divW, v_gcdI, v_absI, v_sumR, v_foLstT, v_foLstL, v_foLst, v_tupOf, v_lstOf, o_fz, o_ol, o_nil, o_cons, at0, at1, at2, at3, at4, at5, at6, at7, ix_1_0, ix_2_0, ix_2_1, ix_3_0, ix_3_1, ix_3_2, ix_4_0, ix_4_1, ix_4_2, ix_4_3, ix_5_0, ix_5_1, ix_5_2, ix_5_3, ix_5_4, ix_6_0, ix_6_1, ix_6_2, ix_6_3, ix_6_4, ix_6_5, ix_7_0, ix_7_1, ix_7_2, ix_7_3, ix_7_4, ix_7_5, ix_7_6, ix_8_0, ix_8_1, ix_8_2, ix_8_3, ix_8_4, ix_8_5, ix_8_6, ix_8_7, ix_9_0, ix_9_1, ix_9_2, ix_9_3, ix_9_4, ix_9_5, ix_9_6, ix_9_7, ix_9_8, ix_10_0, ix_10_1, ix_10_2, ix_10_3, ix_10_4, ix_10_5, ix_10_6, ix_10_7, ix_10_8, ix_10_9, ix_11_0, ix_11_1, ix_11_2, ix_11_3, ix_11_4, ix_11_5, ix_11_6, ix_11_7, ix_11_8, ix_11_9, ix_11_10, ix_12_0, ix_12_1, ix_12_2, ix_12_3, ix_12_4, ix_12_5, ix_12_6, ix_12_7, ix_12_8, ix_12_9, ix_12_10, ix_12_11, isT_tuple_non, isT_tuple_bl, isT_tuple_int, isT_tuple_str, isT_tuple_tup, isT_tuple_lst, isT_int_non, isT_int_bl, isT_int_int, isT_int_str, isT_int_tup, isT_int_lst, isT_bool_non, isT_bool_bl, isT_bool_int, isT_bool_str, isT_bool_tup, isT_bool_lst, isT_str_non, isT_str_bl, isT_str_int, isT_str_str, isT_str_tup, isT_str_lst, isT_list_non, isT_list_bl, isT_list_int, isT_list_str, isT_list_tup, isT_list_lst, isN_non, isN_bl, isN_int, isN_str, isN_tup, isN_lst, at_ints, sz_iff, big_iff, div_iff, mod_iff, mul_iff, mulW_iff, divW_iff, pow_iff, List.getElem?_cons_succ, List.getElem?_cons_zero, List.set_cons_zero, List.set_cons_succ, List.cons_append, List.nil_append, List.replicate, Option.map_some, Option.bind_some, decide_eq_true_eq, decide_eq_false_iff_not, Option.some.injEq, exists_eq_left', Bool.not_eq_true', Bool.not_eq_false', Bool.not_true, Bool.not_false, Int.not_lt, Int.not_le, true_and, and_true, if_true, List.length_cons, List.length_nil, List.map_cons, List.map_nil, true_imp_iff, false_imp_iff, imp_self, imp_true_iff, not_true_eq_false, not_false_eq_true, List.length_map, Bool.false_eq_true, if_false, Bool.true_eq_false, reduceCtorEq, nos, backs, Sl.keep, decide_true, decide_false, ilist_map, O.lf, List.contains_cons, List.contains_nil, Bool.and_eq_true, beq_self_eq_true, Bool.or_false, Bool.or_true, Bool.true_or, Bool.false_or, and_self, if_pos, gAt_some, ds_fz, Nat.reduceBEq, Nat.reduceEqDiff, ite_self, rangeD_len, numbered_len, Int.toNat_natCast, Nat.reduceAdd, Int.reduceMod, Int.reduceDiv, Int.reduceLT, Int.reduceLE, Int.reduceNeg, Int.reduceMul, Int.reduceAdd, Int.reduceSub, Int.reducePow, Nat.reduceAdd, Nat.reduceLT, Nat.reduceLeDiff, Int.reduceEq, true_or, or_true, Int.reduceToNat, Int.toNat_zero, Int.toNat_one, List.length_set, List.length_append, List.length_singleton, Int.reduceAbs]
  refine draw_wp (by assumption) (by omega) (by omega) fun x4 o4 hx4 kx4 ho4 => ?_; simp only [w_some, w_ofIf, w_ofMap, vAt_fz, w_var, w_C, k1_, w_1, k2b_, k2_, w_2, kA_, w_A, kMb_, kM_, w_M, w_aNil, kaCb_, kaC_, w_aCons, w_oNo, koAt_i, w_oAt, kSlc_, kSlb_, kSl_, w_Sl, ktB_, w_tB, bl_bl, ktT_, w_tTr, ktAnd_, w_tAnd, ktOr_, w_tOr, ktNot_, w_tNot, w_tYes, kIf_, w_If, kAnd_b, kOr_b, w_And, w_Or, ktL_, kbL_, kbF_, lentT_o, lentT_f, lentB_o, lentB_f, w_tBor, w_Bor, flat_int, flat_bl, flat_str, flat_non, kS_nx, kS_bk, kS_ct, kS_rt, w_Seq, kJ_s, w_J, w_Nx, w_Bk, w_Ct, kSet_, w_Set, kAugb_, kAugc_, kAug_, w_Aug, kParb_, kPar_, w_Par, gAt_some, kAsg_, w_Asg, kDrop_, w_Drop, kRet_, w_Ret, w_RetN, kIfS_, w_IfS, kApp_, kApp2_, appAt_, w_App, kPut_, putAt_, kPut2_, kPut3_, w_Put, w_Frz, frz_eq, frz1_ow, frz1_fz, kSetO_, w_SetO, kUp_, w_Up, kO_, w_O, dAt_, kFz_, w_Fz, rAt_ow, kRetO_, w_RetO, fEnd_rt, fEnd_nx, w_Fn, w_noEx, w_arNil, karb_, kar_, w_arCons, kasb_, kas_, w_arSlot, callAt_, kBack_, kCall_, w_Call, pull_nil, pull_fz, pull_sl, pull1_ow, push_nil, push_fz, push_sl, push1_ow, outs_nil, outs_f, outs_o, gN_ap, gTp_ap, gsNil_ap, gsCons_ap, kFor_, w_For, kiR_, w_iR, kiS_l, kiS_t, kiE_l, kiE_t, kiC_s, w_iC, w_iS, w_iE, kRnd_nx, kRnd_ct, kRnd_bk, kRnd_rt, kLcB_, kLcBO_, kLc_, kLcO_, w_Lc, w_LcO, kLcT_, kLcE_, v_add, v_sub, v_mul, v_div, v_mod, v_pow, v_ltA, v_leA, v_gtA, v_geA, v_eqA, v_neA, v_eqAs, v_eqAb, v_plusI, v_max2i, v_min2i, v_one, v_lenL, v_lenT, v_intI, v_tupL, v_tupT, v_lstL, v_lstT, v_sumL, v_sumT, v_maxL, v_minL, u_isN, u_notN, v_isT, v_not, u_neg, v_slL, v_slT, v_ixL, v_ixT, v_r1, v_r2, v_mulW, v_divW, v_gcdI, v_absI, v_sumR, v_foLstT, v_foLstL, v_foLst, v_tupOf, v_lstOf, o_fz, o_ol, o_nil, o_cons, at0, at1, at2, at3, at4, at5, at6, at7, ix_1_0, ix_2_0, ix_2_1, ix_3_0, ix_3_1, ix_3_2, ix_4_0, ix_4_1, ix_4_2, ix_4_3, ix_5_0, ix_5_1, ix_5_2, ix_5_3, ix_5_4, ix_6_0, ix_6_1, ix_6_2, ix_6_3, ix_6_4, ix_6_5, ix_7_0, ix_7_1, ix_7_2, ix_7_3, ix_7_4, ix_7_5, ix_7_6, ix_8_0, ix_8_1, ix_8_2, ix_8_3, ix_8_4, ix_8_5, ix_8_6, ix_8_7, ix_9_0, ix_9_1, ix_9_2, ix_9_3, ix_9_4, ix_9_5, ix_9_6, ix_9_7, ix_9_8, ix_10_0, ix_10_1, ix_10_2, ix_10_3, ix_10_4, ix_10_5, ix_10_6, ix_10_7, ix_10_8, ix_10_9, ix_11_0, ix_11_1, ix_11_2, ix_11_3, ix_11_4, ix_11_5, ix_11_6, ix_11_7, ix_11_8, ix_11_9, ix_11_10, ix_12_0, ix_12_1, ix_12_2, ix_12_3, ix_12_4, ix_12_5, ix_12_6, ix_12_7, ix_12_8, ix_12_9, ix_12_10, ix_12_11, isT_tuple_non, isT_tuple_bl, isT_tuple_int, isT_tuple_str, isT_tuple_tup, isT_tuple_lst, isT_int_non, isT_int_bl, isT_int_int, isT_int_str, isT_int_tup, isT_int_lst, isT_bool_non, isT_bool_bl, isT_bool_int, isT_bool_str, isT_bool_tup, isT_bool_lst, isT_str_non, isT_str_bl, isT_str_int, isT_str_str, isT_str_tup, isT_str_lst, isT_list_non, isT_list_bl, isT_list_int, isT_list_str, isT_list_tup, isT_list_lst, isN_non, isN_bl, isN_int, isN_str, isN_tup, isN_lst, at_ints, sz_iff, big_iff, div_iff, mod_iff, mul_iff, mulW_iff, divW_iff, pow_iff, List.getElem?_cons_succ, List.getElem?_cons_zero, List.set_cons_zero, List.set_cons_succ, List.cons_append, List.nil_append, List.replicate, Option.map_some, Option.bind_some, decide_eq_true_eq, decide_eq_false_iff_not, Option.some.injEq, exists_eq_left', Bool.not_eq_true', Bool.not_eq_false', Bool.not_true, Bool.not_false, Int.not_lt, Int.not_le, true_and, and_true, if_true, List.length_cons, List.length_nil, List.map_cons, List.map_nil, true_imp_iff, false_imp_iff, imp_self, imp_true_iff, not_true_eq_false, not_false_eq_true, List.length_map, Bool.false_eq_true, if_false, Bool.true_eq_false, reduceCtorEq, nos, backs, Sl.keep, decide_true, decide_false, ilist_map, O.lf, List.contains_cons, List.contains_nil, Bool.and_eq_true, beq_self_eq_true, Bool.or_false, Bool.or_true, Bool.true_or, Bool.false_or, and_self, if_pos, gAt_some, ds_fz, Nat.reduceBEq, Nat.reduceEqDiff, ite_self, rangeD_len, numbered_len, Int.toNat_natCast, Nat.reduceAdd, Int.reduceMod, Int.reduceDiv, Int.reduceLT, Int.reduceLE, Int.reduceNeg, Int.reduceMul, Int.reduceAdd, Int.reduceSub, Int.reducePow, Nat.reduceAdd, Nat.reduceLT, Nat.reduceLeDiff, Int.reduceEq, true_or, or_true, Int.reduceToNat, Int.toNat_zero, Int.toNat_one, List.length_set, List.length_append, List.length_singleton, Int.reduceAbs]
  refine draw_wp (by assumption) (by omega) (by omega) fun number o5 hnumber knumber ho5 => ?_; simp only [w_some, w_ofIf, w_ofMap, vAt_fz, w_var, w_C, k1_, w_1, k2b_, k2_, w_2, kA_, w_A, kMb_, kM_, w_M, w_aNil, kaCb_, kaC_, w_aCons, w_oNo, koAt_i, w_oAt, kSlc_, kSlb_, kSl_, w_Sl, ktB_, w_tB, bl_bl, ktT_, w_tTr, ktAnd_, w_tAnd, ktOr_, w_tOr, ktNot_, w_tNot, w_tYes, kIf_, w_If, kAnd_b, kOr_b, w_And, w_Or, ktL_, kbL_, kbF_, lentT_o, lentT_f, lentB_o, lentB_f, w_tBor, w_Bor, flat_int, flat_bl, flat_str, flat_non, kS_nx, kS_bk, kS_ct, kS_rt, w_Seq, kJ_s, w_J, w_Nx, w_Bk, w_Ct, kSet_, w_Set, kAugb_, kAugc_, kAug_, w_Aug, kParb_, kPar_, w_Par, gAt_some, kAsg_, w_Asg, kDrop_, w_Drop, kRet_, w_Ret, w_RetN, kIfS_, w_IfS, kApp_, kApp2_, appAt_, w_App, kPut_, putAt_, kPut2_, kPut3_, w_Put, w_Frz, frz_eq, frz1_ow, frz1_fz, kSetO_, w_SetO, kUp_, w_Up, kO_, w_O, dAt_, kFz_, w_Fz, rAt_ow, kRetO_, w_RetO, fEnd_rt, fEnd_nx, w_Fn, w_noEx, w_arNil, karb_, kar_, w_arCons, kasb_, kas_, w_arSlot, callAt_, kBack_, kCall_, w_Call, pull_nil, pull_fz, pull_sl, pull1_ow, push_nil, push_fz, push_sl, push1_ow, outs_nil, outs_f, outs_o, gN_ap, gTp_ap, gsNil_ap, gsCons_ap, kFor_, w_For, kiR_, w_iR, kiS_l, kiS_t, kiE_l, kiE_t, kiC_s, w_iC, w_iS, w_iE, kRnd_nx, kRnd_ct, kRnd_bk, kRnd_rt, kLcB_, kLcBO_, kLc_, kLcO_, w_Lc, w_LcO, kLcT_, kLcE_, v_add, v_sub, v_mul, v_div, v_mod, v_pow, v_ltA, v_leA, v_gtA, v_geA, v_eqA, v_neA, v_eqAs, v_eqAb, v_plusI, v_max2i, v_min2i, v_one, v_lenL, v_lenT, v_intI, v_tupL, v_tupT, v_lstL, v_lstT, v_sumL, v_sumT, v_maxL, v_minL, u_isN, u_notN, v_isT, v_not, u_neg, v_slL, v_slT, v_ixL, v_ixT, v_r1, v_r2, v_mulW, v_divW, v_gcdI, v_absI, v_sumR, v_foLstT, v_foLstL, v_foLst, v_tupOf, v_lstOf, o_fz, o_ol, o_nil, o_cons, at0, at1, at2, at3, at4, at5, at6, at7, ix_1_0, ix_2_0, ix_2_1, ix_3_0, ix_3_1, ix_3_2, ix_4_0, ix_4_1, ix_4_2, ix_4_3, ix_5_0, ix_5_1, ix_5_2, ix_5_3, ix_5_4, ix_6_0, ix_6_1, ix_6_2, ix_6_3, ix_6_4, ix_6_5, ix_7_0, ix_7_1, ix_7_2, ix_7_3, ix_7_4, ix_7_5, ix_7_6, ix_8_0, ix_8_1, ix_8_2, ix_8_3, ix_8_4, ix_8_5, ix_8_6, ix_8_7, ix_9_0, ix_9_1, ix_9_2, ix_9_3, ix_9_4, ix_9_5, ix_9_6, ix_9_7, ix_9_8, ix_10_0, ix_10_1, ix_10_2, ix_10_3, ix_10_4, ix_10_5, ix_10_6, ix_10_7, ix_10_8, ix_10_9, ix_11_0, ix_11_1, ix_11_2, ix_11_3, ix_11_4, ix_11_5, ix_11_6, ix_11_7, ix_11_8, ix_11_9, ix_11_10, ix_12_0, ix_12_1, ix_12_2, ix_12_3, ix_12_4, ix_12_5, ix_12_6, ix_12_7, ix_12_8, ix_12_9, ix_12_10, ix_12_11, isT_tuple_non, isT_tuple_bl, isT_tuple_int, isT_tuple_str, isT_tuple_tup, isT_tuple_lst, isT_int_non, isT_int_bl, isT_int_int, isT_int_str, isT_int_tup, isT_int_lst, isT_bool_non, isT_bool_bl, isT_bool_int, isT_bool_str, isT_bool_tup, isT_bool_lst, isT_str_non, isT_str_bl, isT_str_int, isT_str_str, isT_str_tup, isT_str_lst, isT_list_non, isT_list_bl, isT_list_int, isT_list_str, isT_list_tup, isT_list_lst, isN_non, isN_bl, isN_int, isN_str, isN_tup, isN_lst, at_ints, sz_iff, big_iff, div_iff, mod_iff, mul_iff, mulW_iff, divW_iff, pow_iff, List.getElem?_cons_succ, List.getElem?_cons_zero, List.set_cons_zero, List.set_cons_succ, List.cons_append, List.nil_append, List.replicate, Option.map_some, Option.bind_some, decide_eq_true_eq, decide_eq_false_iff_not, Option.some.injEq, exists_eq_left', Bool.not_eq_true', Bool.not_eq_false', Bool.not_true, Bool.not_false, Int.not_lt, Int.not_le, true_and, and_true, if_true, List.length_cons, List.length_nil, List.map_cons, List.map_nil, true_imp_iff, false_imp_iff, imp_self, imp_true_iff, not_true_eq_false, not_false_eq_true, List.length_map, Bool.false_eq_true, if_false, Bool.true_eq_false, reduceCtorEq, nos, backs, Sl.keep, decide_true, decide_false, ilist_map, O.lf, List.contains_cons, List.contains_nil, Bool.and_eq_true, beq_self_eq_true, Bool.or_false, Bool.or_true, Bool.true_or, Bool.false_or, and_self, if_pos, gAt_some, ds_fz, Nat.reduceBEq, Nat.reduceEqDiff, ite_self, rangeD_len, numbered_len, Int.toNat_natCast, Nat.reduceAdd, Int.reduceMod, Int.reduceDiv, Int.reduceLT, Int.reduceLE, Int.reduceNeg, Int.reduceMul, Int.reduceAdd, Int.reduceSub, Int.reducePow, Nat.reduceAdd, Nat.reduceLT, Nat.reduceLeDiff, Int.reduceEq, true_or, or_true, Int.reduceToNat, Int.toNat_zero, Int.toNat_one, List.length_set, List.length_append, List.length_singleton, Int.reduceAbs]
  refine ⟨by omega, by omega, ?_⟩
  have hrl : (rangeD 0 n).length = n := rangeD_len
  refine w_lcK (fun k ys Γ => ∃ vs o', ys = vs.map D.int ∧ vs.length = k ∧ (∀ v ∈ vs, 0 ≤ v ∧ v < 100000) ∧ FeedOk o' ∧ Γ = [.ow (some 0) o', .fz (.int m), .fz (.int n), .fz (.int x4), .fz (.int number), .no, .no, .no]) ⟨[], o5, rfl, rfl, fun v hv => (nomatch hv), ho5, rfl⟩ ?_ ?_
  · rintro k d ys Γ hd ⟨vs, o6, rfl, rfl, hv, ho6, rfl⟩
    obtain ⟨hk, rfl⟩ := rangeD_get0 hd
    simp only [w_some, w_ofIf, w_ofMap, vAt_fz, w_var, w_C, k1_, w_1, k2b_, k2_, w_2, kA_, w_A, kMb_, kM_, w_M, w_aNil, kaCb_, kaC_, w_aCons, w_oNo, koAt_i, w_oAt, kSlc_, kSlb_, kSl_, w_Sl, ktB_, w_tB, bl_bl, ktT_, w_tTr, ktAnd_, w_tAnd, ktOr_, w_tOr, ktNot_, w_tNot, w_tYes, kIf_, w_If, kAnd_b, kOr_b, w_And, w_Or, ktL_, kbL_, kbF_, lentT_o, lentT_f, lentB_o, lentB_f, w_tBor, w_Bor, flat_int, flat_bl, flat_str, flat_non, kS_nx, kS_bk, kS_ct, kS_rt, w_Seq, kJ_s, w_J, w_Nx, w_Bk, w_Ct, kSet_, w_Set, kAugb_, kAugc_, kAug_, w_Aug, kParb_, kPar_, w_Par, gAt_some, kAsg_, w_Asg, kDrop_, w_Drop, kRet_, w_Ret, w_RetN, kIfS_, w_IfS, kApp_, kApp2_, appAt_, w_App, kPut_, putAt_, kPut2_, kPut3_, w_Put, w_Frz, frz_eq, frz1_ow, frz1_fz, kSetO_, w_SetO, kUp_, w_Up, kO_, w_O, dAt_, kFz_, w_Fz, rAt_ow, kRetO_, w_RetO, fEnd_rt, fEnd_nx, w_Fn, w_noEx, w_arNil, karb_, kar_, w_arCons, kasb_, kas_, w_arSlot, callAt_, kBack_, kCall_, w_Call, pull_nil, pull_fz, pull_sl, pull1_ow, push_nil, push_fz, push_sl, push1_ow, outs_nil, outs_f, outs_o, gN_ap, gTp_ap, gsNil_ap, gsCons_ap, kFor_, w_For, kiR_, w_iR, kiS_l, kiS_t, kiE_l, kiE_t, kiC_s, w_iC, w_iS, w_iE, kRnd_nx, kRnd_ct, kRnd_bk, kRnd_rt, kLcB_, kLcBO_, kLc_, kLcO_, w_Lc, w_LcO, kLcT_, kLcE_, v_add, v_sub, v_mul, v_div, v_mod, v_pow, v_ltA, v_leA, v_gtA, v_geA, v_eqA, v_neA, v_eqAs, v_eqAb, v_plusI, v_max2i, v_min2i, v_one, v_lenL, v_lenT, v_intI, v_tupL, v_tupT, v_lstL, v_lstT, v_sumL, v_sumT, v_maxL, v_minL, u_isN, u_notN, v_isT, v_not, u_neg, v_slL, v_slT, v_ixL, v_ixT, v_r1, v_r2, v_mulW, v_divW, v_gcdI, v_absI, v_sumR, v_foLstT, v_foLstL, v_foLst, v_tupOf, v_lstOf, o_fz, o_ol, o_nil, o_cons, at0, at1, at2, at3, at4, at5, at6, at7, ix_1_0, ix_2_0, ix_2_1, ix_3_0, ix_3_1, ix_3_2, ix_4_0, ix_4_1, ix_4_2, ix_4_3, ix_5_0, ix_5_1, ix_5_2, ix_5_3, ix_5_4, ix_6_0, ix_6_1, ix_6_2, ix_6_3, ix_6_4, ix_6_5, ix_7_0, ix_7_1, ix_7_2, ix_7_3, ix_7_4, ix_7_5, ix_7_6, ix_8_0, ix_8_1, ix_8_2, ix_8_3, ix_8_4, ix_8_5, ix_8_6, ix_8_7, ix_9_0, ix_9_1, ix_9_2, ix_9_3, ix_9_4, ix_9_5, ix_9_6, ix_9_7, ix_9_8, ix_10_0, ix_10_1, ix_10_2, ix_10_3, ix_10_4, ix_10_5, ix_10_6, ix_10_7, ix_10_8, ix_10_9, ix_11_0, ix_11_1, ix_11_2, ix_11_3, ix_11_4, ix_11_5, ix_11_6, ix_11_7, ix_11_8, ix_11_9, ix_11_10, ix_12_0, ix_12_1, ix_12_2, ix_12_3, ix_12_4, ix_12_5, ix_12_6, ix_12_7, ix_12_8, ix_12_9, ix_12_10, ix_12_11, isT_tuple_non, isT_tuple_bl, isT_tuple_int, isT_tuple_str, isT_tuple_tup, isT_tuple_lst, isT_int_non, isT_int_bl, isT_int_int, isT_int_str, isT_int_tup, isT_int_lst, isT_bool_non, isT_bool_bl, isT_bool_int, isT_bool_str, isT_bool_tup, isT_bool_lst, isT_str_non, isT_str_bl, isT_str_int, isT_str_str, isT_str_tup, isT_str_lst, isT_list_non, isT_list_bl, isT_list_int, isT_list_str, isT_list_tup, isT_list_lst, isN_non, isN_bl, isN_int, isN_str, isN_tup, isN_lst, at_ints, sz_iff, big_iff, div_iff, mod_iff, mul_iff, mulW_iff, divW_iff, pow_iff, List.getElem?_cons_succ, List.getElem?_cons_zero, List.set_cons_zero, List.set_cons_succ, List.cons_append, List.nil_append, List.replicate, Option.map_some, Option.bind_some, decide_eq_true_eq, decide_eq_false_iff_not, Option.some.injEq, exists_eq_left', Bool.not_eq_true', Bool.not_eq_false', Bool.not_true, Bool.not_false, Int.not_lt, Int.not_le, true_and, and_true, if_true, List.length_cons, List.length_nil, List.map_cons, List.map_nil, true_imp_iff, false_imp_iff, imp_self, imp_true_iff, not_true_eq_false, not_false_eq_true, List.length_map, Bool.false_eq_true, if_false, Bool.true_eq_false, reduceCtorEq, nos, backs, Sl.keep, decide_true, decide_false, ilist_map, O.lf, List.contains_cons, List.contains_nil, Bool.and_eq_true, beq_self_eq_true, Bool.or_false, Bool.or_true, Bool.true_or, Bool.false_or, and_self, if_pos, gAt_some, ds_fz, Nat.reduceBEq, Nat.reduceEqDiff, ite_self, rangeD_len, numbered_len, Int.toNat_natCast, Nat.reduceAdd, Int.reduceMod, Int.reduceDiv, Int.reduceLT, Int.reduceLE, Int.reduceNeg, Int.reduceMul, Int.reduceAdd, Int.reduceSub, Int.reducePow, Nat.reduceAdd, Nat.reduceLT, Nat.reduceLeDiff, Int.reduceEq, true_or, or_true, Int.reduceToNat, Int.toNat_zero, Int.toNat_one, List.length_set, List.length_append, List.length_singleton, Int.reduceAbs]
    refine draw_wp (by assumption) (by omega) (by omega) fun x7 o7 hx7 kx7 ho7 => ?_; simp only [w_some, w_ofIf, w_ofMap, vAt_fz, w_var, w_C, k1_, w_1, k2b_, k2_, w_2, kA_, w_A, kMb_, kM_, w_M, w_aNil, kaCb_, kaC_, w_aCons, w_oNo, koAt_i, w_oAt, kSlc_, kSlb_, kSl_, w_Sl, ktB_, w_tB, bl_bl, ktT_, w_tTr, ktAnd_, w_tAnd, ktOr_, w_tOr, ktNot_, w_tNot, w_tYes, kIf_, w_If, kAnd_b, kOr_b, w_And, w_Or, ktL_, kbL_, kbF_, lentT_o, lentT_f, lentB_o, lentB_f, w_tBor, w_Bor, flat_int, flat_bl, flat_str, flat_non, kS_nx, kS_bk, kS_ct, kS_rt, w_Seq, kJ_s, w_J, w_Nx, w_Bk, w_Ct, kSet_, w_Set, kAugb_, kAugc_, kAug_, w_Aug, kParb_, kPar_, w_Par, gAt_some, kAsg_, w_Asg, kDrop_, w_Drop, kRet_, w_Ret, w_RetN, kIfS_, w_IfS, kApp_, kApp2_, appAt_, w_App, kPut_, putAt_, kPut2_, kPut3_, w_Put, w_Frz, frz_eq, frz1_ow, frz1_fz, kSetO_, w_SetO, kUp_, w_Up, kO_, w_O, dAt_, kFz_, w_Fz, rAt_ow, kRetO_, w_RetO, fEnd_rt, fEnd_nx, w_Fn, w_noEx, w_arNil, karb_, kar_, w_arCons, kasb_, kas_, w_arSlot, callAt_, kBack_, kCall_, w_Call, pull_nil, pull_fz, pull_sl, pull1_ow, push_nil, push_fz, push_sl, push1_ow, outs_nil, outs_f, outs_o, gN_ap, gTp_ap, gsNil_ap, gsCons_ap, kFor_, w_For, kiR_, w_iR, kiS_l, kiS_t, kiE_l, kiE_t, kiC_s, w_iC, w_iS, w_iE, kRnd_nx, kRnd_ct, kRnd_bk, kRnd_rt, kLcB_, kLcBO_, kLc_, kLcO_, w_Lc, w_LcO, kLcT_, kLcE_, v_add, v_sub, v_mul, v_div, v_mod, v_pow, v_ltA, v_leA, v_gtA, v_geA, v_eqA, v_neA, v_eqAs, v_eqAb, v_plusI, v_max2i, v_min2i, v_one, v_lenL, v_lenT, v_intI, v_tupL, v_tupT, v_lstL, v_lstT, v_sumL, v_sumT, v_maxL, v_minL, u_isN, u_notN, v_isT, v_not, u_neg, v_slL, v_slT, v_ixL, v_ixT, v_r1, v_r2, v_mulW, v_divW, v_gcdI, v_absI, v_sumR, v_foLstT, v_foLstL, v_foLst, v_tupOf, v_lstOf, o_fz, o_ol, o_nil, o_cons, at0, at1, at2, at3, at4, at5, at6, at7, ix_1_0, ix_2_0, ix_2_1, ix_3_0, ix_3_1, ix_3_2, ix_4_0, ix_4_1, ix_4_2, ix_4_3, ix_5_0, ix_5_1, ix_5_2, ix_5_3, ix_5_4, ix_6_0, ix_6_1, ix_6_2, ix_6_3, ix_6_4, ix_6_5, ix_7_0, ix_7_1, ix_7_2, ix_7_3, ix_7_4, ix_7_5, ix_7_6, ix_8_0, ix_8_1, ix_8_2, ix_8_3, ix_8_4, ix_8_5, ix_8_6, ix_8_7, ix_9_0, ix_9_1, ix_9_2, ix_9_3, ix_9_4, ix_9_5, ix_9_6, ix_9_7, ix_9_8, ix_10_0, ix_10_1, ix_10_2, ix_10_3, ix_10_4, ix_10_5, ix_10_6, ix_10_7, ix_10_8, ix_10_9, ix_11_0, ix_11_1, ix_11_2, ix_11_3, ix_11_4, ix_11_5, ix_11_6, ix_11_7, ix_11_8, ix_11_9, ix_11_10, ix_12_0, ix_12_1, ix_12_2, ix_12_3, ix_12_4, ix_12_5, ix_12_6, ix_12_7, ix_12_8, ix_12_9, ix_12_10, ix_12_11, isT_tuple_non, isT_tuple_bl, isT_tuple_int, isT_tuple_str, isT_tuple_tup, isT_tuple_lst, isT_int_non, isT_int_bl, isT_int_int, isT_int_str, isT_int_tup, isT_int_lst, isT_bool_non, isT_bool_bl, isT_bool_int, isT_bool_str, isT_bool_tup, isT_bool_lst, isT_str_non, isT_str_bl, isT_str_int, isT_str_str, isT_str_tup, isT_str_lst, isT_list_non, isT_list_bl, isT_list_int, isT_list_str, isT_list_tup, isT_list_lst, isN_non, isN_bl, isN_int, isN_str, isN_tup, isN_lst, at_ints, sz_iff, big_iff, div_iff, mod_iff, mul_iff, mulW_iff, divW_iff, pow_iff, List.getElem?_cons_succ, List.getElem?_cons_zero, List.set_cons_zero, List.set_cons_succ, List.cons_append, List.nil_append, List.replicate, Option.map_some, Option.bind_some, decide_eq_true_eq, decide_eq_false_iff_not, Option.some.injEq, exists_eq_left', Bool.not_eq_true', Bool.not_eq_false', Bool.not_true, Bool.not_false, Int.not_lt, Int.not_le, true_and, and_true, if_true, List.length_cons, List.length_nil, List.map_cons, List.map_nil, true_imp_iff, false_imp_iff, imp_self, imp_true_iff, not_true_eq_false, not_false_eq_true, List.length_map, Bool.false_eq_true, if_false, Bool.true_eq_false, reduceCtorEq, nos, backs, Sl.keep, decide_true, decide_false, ilist_map, O.lf, List.contains_cons, List.contains_nil, Bool.and_eq_true, beq_self_eq_true, Bool.or_false, Bool.or_true, Bool.true_or, Bool.false_or, and_self, if_pos, gAt_some, ds_fz, Nat.reduceBEq, Nat.reduceEqDiff, ite_self, rangeD_len, numbered_len, Int.toNat_natCast, Nat.reduceAdd, Int.reduceMod, Int.reduceDiv, Int.reduceLT, Int.reduceLE, Int.reduceNeg, Int.reduceMul, Int.reduceAdd, Int.reduceSub, Int.reducePow, Nat.reduceAdd, Nat.reduceLT, Nat.reduceLeDiff, Int.reduceEq, true_or, or_true, Int.reduceToNat, Int.toNat_zero, Int.toNat_one, List.length_set, List.length_append, List.length_singleton, Int.reduceAbs]
    refine draw_wp (by assumption) (by omega) (by omega) fun x8 o8 hx8 kx8 ho8 => ?_; simp only [w_some, w_ofIf, w_ofMap, vAt_fz, w_var, w_C, k1_, w_1, k2b_, k2_, w_2, kA_, w_A, kMb_, kM_, w_M, w_aNil, kaCb_, kaC_, w_aCons, w_oNo, koAt_i, w_oAt, kSlc_, kSlb_, kSl_, w_Sl, ktB_, w_tB, bl_bl, ktT_, w_tTr, ktAnd_, w_tAnd, ktOr_, w_tOr, ktNot_, w_tNot, w_tYes, kIf_, w_If, kAnd_b, kOr_b, w_And, w_Or, ktL_, kbL_, kbF_, lentT_o, lentT_f, lentB_o, lentB_f, w_tBor, w_Bor, flat_int, flat_bl, flat_str, flat_non, kS_nx, kS_bk, kS_ct, kS_rt, w_Seq, kJ_s, w_J, w_Nx, w_Bk, w_Ct, kSet_, w_Set, kAugb_, kAugc_, kAug_, w_Aug, kParb_, kPar_, w_Par, gAt_some, kAsg_, w_Asg, kDrop_, w_Drop, kRet_, w_Ret, w_RetN, kIfS_, w_IfS, kApp_, kApp2_, appAt_, w_App, kPut_, putAt_, kPut2_, kPut3_, w_Put, w_Frz, frz_eq, frz1_ow, frz1_fz, kSetO_, w_SetO, kUp_, w_Up, kO_, w_O, dAt_, kFz_, w_Fz, rAt_ow, kRetO_, w_RetO, fEnd_rt, fEnd_nx, w_Fn, w_noEx, w_arNil, karb_, kar_, w_arCons, kasb_, kas_, w_arSlot, callAt_, kBack_, kCall_, w_Call, pull_nil, pull_fz, pull_sl, pull1_ow, push_nil, push_fz, push_sl, push1_ow, outs_nil, outs_f, outs_o, gN_ap, gTp_ap, gsNil_ap, gsCons_ap, kFor_, w_For, kiR_, w_iR, kiS_l, kiS_t, kiE_l, kiE_t, kiC_s, w_iC, w_iS, w_iE, kRnd_nx, kRnd_ct, kRnd_bk, kRnd_rt, kLcB_, kLcBO_, kLc_, kLcO_, w_Lc, w_LcO, kLcT_, kLcE_, v_add, v_sub, v_mul, v_div, v_mod, v_pow, v_ltA, v_leA, v_gtA, v_geA, v_eqA, v_neA, v_eqAs, v_eqAb, v_plusI, v_max2i, v_min2i, v_one, v_lenL, v_lenT, v_intI, v_tupL, v_tupT, v_lstL, v_lstT, v_sumL, v_sumT, v_maxL, v_minL, u_isN, u_notN, v_isT, v_not, u_neg, v_slL, v_slT, v_ixL, v_ixT, v_r1, v_r2, v_mulW, v_divW, v_gcdI, v_absI, v_sumR, v_foLstT, v_foLstL, v_foLst, v_tupOf, v_lstOf, o_fz, o_ol, o_nil, o_cons, at0, at1, at2, at3, at4, at5, at6, at7, ix_1_0, ix_2_0, ix_2_1, ix_3_0, ix_3_1, ix_3_2, ix_4_0, ix_4_1, ix_4_2, ix_4_3, ix_5_0, ix_5_1, ix_5_2, ix_5_3, ix_5_4, ix_6_0, ix_6_1, ix_6_2, ix_6_3, ix_6_4, ix_6_5, ix_7_0, ix_7_1, ix_7_2, ix_7_3, ix_7_4, ix_7_5, ix_7_6, ix_8_0, ix_8_1, ix_8_2, ix_8_3, ix_8_4, ix_8_5, ix_8_6, ix_8_7, ix_9_0, ix_9_1, ix_9_2, ix_9_3, ix_9_4, ix_9_5, ix_9_6, ix_9_7, ix_9_8, ix_10_0, ix_10_1, ix_10_2, ix_10_3, ix_10_4, ix_10_5, ix_10_6, ix_10_7, ix_10_8, ix_10_9, ix_11_0, ix_11_1, ix_11_2, ix_11_3, ix_11_4, ix_11_5, ix_11_6, ix_11_7, ix_11_8, ix_11_9, ix_11_10, ix_12_0, ix_12_1, ix_12_2, ix_12_3, ix_12_4, ix_12_5, ix_12_6, ix_12_7, ix_12_8, ix_12_9, ix_12_10, ix_12_11, isT_tuple_non, isT_tuple_bl, isT_tuple_int, isT_tuple_str, isT_tuple_tup, isT_tuple_lst, isT_int_non, isT_int_bl, isT_int_int, isT_int_str, isT_int_tup, isT_int_lst, isT_bool_non, isT_bool_bl, isT_bool_int, isT_bool_str, isT_bool_tup, isT_bool_lst, isT_str_non, isT_str_bl, isT_str_int, isT_str_str, isT_str_tup, isT_str_lst, isT_list_non, isT_list_bl, isT_list_int, isT_list_str, isT_list_tup, isT_list_lst, isN_non, isN_bl, isN_int, isN_str, isN_tup, isN_lst, at_ints, sz_iff, big_iff, div_iff, mod_iff, mul_iff, mulW_iff, divW_iff, pow_iff, List.getElem?_cons_succ, List.getElem?_cons_zero, List.set_cons_zero, List.set_cons_succ, List.cons_append, List.nil_append, List.replicate, Option.map_some, Option.bind_some, decide_eq_true_eq, decide_eq_false_iff_not, Option.some.injEq, exists_eq_left', Bool.not_eq_true', Bool.not_eq_false', Bool.not_true, Bool.not_false, Int.not_lt, Int.not_le, true_and, and_true, if_true, List.length_cons, List.length_nil, List.map_cons, List.map_nil, true_imp_iff, false_imp_iff, imp_self, imp_true_iff, not_true_eq_false, not_false_eq_true, List.length_map, Bool.false_eq_true, if_false, Bool.true_eq_false, reduceCtorEq, nos, backs, Sl.keep, decide_true, decide_false, ilist_map, O.lf, List.contains_cons, List.contains_nil, Bool.and_eq_true, beq_self_eq_true, Bool.or_false, Bool.or_true, Bool.true_or, Bool.false_or, and_self, if_pos, gAt_some, ds_fz, Nat.reduceBEq, Nat.reduceEqDiff, ite_self, rangeD_len, numbered_len, Int.toNat_natCast, Nat.reduceAdd, Int.reduceMod, Int.reduceDiv, Int.reduceLT, Int.reduceLE, Int.reduceNeg, Int.reduceMul, Int.reduceAdd, Int.reduceSub, Int.reducePow, Nat.reduceAdd, Nat.reduceLT, Nat.reduceLeDiff, Int.reduceEq, true_or, or_true, Int.reduceToNat, Int.toNat_zero, Int.toNat_one, List.length_set, List.length_append, List.length_singleton, Int.reduceAbs]
    refine draw_wp (by assumption) (by omega) (by omega) fun x9 o9 hx9 kx9 ho9 => ?_; simp only [w_some, w_ofIf, w_ofMap, vAt_fz, w_var, w_C, k1_, w_1, k2b_, k2_, w_2, kA_, w_A, kMb_, kM_, w_M, w_aNil, kaCb_, kaC_, w_aCons, w_oNo, koAt_i, w_oAt, kSlc_, kSlb_, kSl_, w_Sl, ktB_, w_tB, bl_bl, ktT_, w_tTr, ktAnd_, w_tAnd, ktOr_, w_tOr, ktNot_, w_tNot, w_tYes, kIf_, w_If, kAnd_b, kOr_b, w_And, w_Or, ktL_, kbL_, kbF_, lentT_o, lentT_f, lentB_o, lentB_f, w_tBor, w_Bor, flat_int, flat_bl, flat_str, flat_non, kS_nx, kS_bk, kS_ct, kS_rt, w_Seq, kJ_s, w_J, w_Nx, w_Bk, w_Ct, kSet_, w_Set, kAugb_, kAugc_, kAug_, w_Aug, kParb_, kPar_, w_Par, gAt_some, kAsg_, w_Asg, kDrop_, w_Drop, kRet_, w_Ret, w_RetN, kIfS_, w_IfS, kApp_, kApp2_, appAt_, w_App, kPut_, putAt_, kPut2_, kPut3_, w_Put, w_Frz, frz_eq, frz1_ow, frz1_fz, kSetO_, w_SetO, kUp_, w_Up, kO_, w_O, dAt_, kFz_, w_Fz, rAt_ow, kRetO_, w_RetO, fEnd_rt, fEnd_nx, w_Fn, w_noEx, w_arNil, karb_, kar_, w_arCons, kasb_, kas_, w_arSlot, callAt_, kBack_, kCall_, w_Call, pull_nil, pull_fz, pull_sl, pull1_ow, push_nil, push_fz, push_sl, push1_ow, outs_nil, outs_f, outs_o, gN_ap, gTp_ap, gsNil_ap, gsCons_ap, kFor_, w_For, kiR_, w_iR, kiS_l, kiS_t, kiE_l, kiE_t, kiC_s, w_iC, w_iS, w_iE, kRnd_nx, kRnd_ct, kRnd_bk, kRnd_rt, kLcB_, kLcBO_, kLc_, kLcO_, w_Lc, w_LcO, kLcT_, kLcE_, v_add, v_sub, v_mul, v_div, v_mod, v_pow, v_ltA, v_leA, v_gtA, v_geA, v_eqA, v_neA, v_eqAs, v_eqAb, v_plusI, v_max2i, v_min2i, v_one, v_lenL, v_lenT, v_intI, v_tupL, v_tupT, v_lstL, v_lstT, v_sumL, v_sumT, v_maxL, v_minL, u_isN, u_notN, v_isT, v_not, u_neg, v_slL, v_slT, v_ixL, v_ixT, v_r1, v_r2, v_mulW, v_divW, v_gcdI, v_absI, v_sumR, v_foLstT, v_foLstL, v_foLst, v_tupOf, v_lstOf, o_fz, o_ol, o_nil, o_cons, at0, at1, at2, at3, at4, at5, at6, at7, ix_1_0, ix_2_0, ix_2_1, ix_3_0, ix_3_1, ix_3_2, ix_4_0, ix_4_1, ix_4_2, ix_4_3, ix_5_0, ix_5_1, ix_5_2, ix_5_3, ix_5_4, ix_6_0, ix_6_1, ix_6_2, ix_6_3, ix_6_4, ix_6_5, ix_7_0, ix_7_1, ix_7_2, ix_7_3, ix_7_4, ix_7_5, ix_7_6, ix_8_0, ix_8_1, ix_8_2, ix_8_3, ix_8_4, ix_8_5, ix_8_6, ix_8_7, ix_9_0, ix_9_1, ix_9_2, ix_9_3, ix_9_4, ix_9_5, ix_9_6, ix_9_7, ix_9_8, ix_10_0, ix_10_1, ix_10_2, ix_10_3, ix_10_4, ix_10_5, ix_10_6, ix_10_7, ix_10_8, ix_10_9, ix_11_0, ix_11_1, ix_11_2, ix_11_3, ix_11_4, ix_11_5, ix_11_6, ix_11_7, ix_11_8, ix_11_9, ix_11_10, ix_12_0, ix_12_1, ix_12_2, ix_12_3, ix_12_4, ix_12_5, ix_12_6, ix_12_7, ix_12_8, ix_12_9, ix_12_10, ix_12_11, isT_tuple_non, isT_tuple_bl, isT_tuple_int, isT_tuple_str, isT_tuple_tup, isT_tuple_lst, isT_int_non, isT_int_bl, isT_int_int, isT_int_str, isT_int_tup, isT_int_lst, isT_bool_non, isT_bool_bl, isT_bool_int, isT_bool_str, isT_bool_tup, isT_bool_lst, isT_str_non, isT_str_bl, isT_str_int, isT_str_str, isT_str_tup, isT_str_lst, isT_list_non, isT_list_bl, isT_list_int, isT_list_str, isT_list_tup, isT_list_lst, isN_non, isN_bl, isN_int, isN_str, isN_tup, isN_lst, at_ints, sz_iff, big_iff, div_iff, mod_iff, mul_iff, mulW_iff, divW_iff, pow_iff, List.getElem?_cons_succ, List.getElem?_cons_zero, List.set_cons_zero, List.set_cons_succ, List.cons_append, List.nil_append, List.replicate, Option.map_some, Option.bind_some, decide_eq_true_eq, decide_eq_false_iff_not, Option.some.injEq, exists_eq_left', Bool.not_eq_true', Bool.not_eq_false', Bool.not_true, Bool.not_false, Int.not_lt, Int.not_le, true_and, and_true, if_true, List.length_cons, List.length_nil, List.map_cons, List.map_nil, true_imp_iff, false_imp_iff, imp_self, imp_true_iff, not_true_eq_false, not_false_eq_true, List.length_map, Bool.false_eq_true, if_false, Bool.true_eq_false, reduceCtorEq, nos, backs, Sl.keep, decide_true, decide_false, ilist_map, O.lf, List.contains_cons, List.contains_nil, Bool.and_eq_true, beq_self_eq_true, Bool.or_false, Bool.or_true, Bool.true_or, Bool.false_or, and_self, if_pos, gAt_some, ds_fz, Nat.reduceBEq, Nat.reduceEqDiff, ite_self, rangeD_len, numbered_len, Int.toNat_natCast, Nat.reduceAdd, Int.reduceMod, Int.reduceDiv, Int.reduceLT, Int.reduceLE, Int.reduceNeg, Int.reduceMul, Int.reduceAdd, Int.reduceSub, Int.reducePow, Nat.reduceAdd, Nat.reduceLT, Nat.reduceLeDiff, Int.reduceEq, true_or, or_true, Int.reduceToNat, Int.toNat_zero, Int.toNat_one, List.length_set, List.length_append, List.length_singleton, Int.reduceAbs]
    obtain ⟨d10, e10, v, rfl, hv0, hv1⟩ := atI_all (xs := [D.int 0, D.int number, D.int x7, D.int x8, D.int x9]) (fun d => ∃ s : Int, d = .int s ∧ 0 ≤ s ∧ s < 100000) hx4 (by simpa using kx4) (by
      intro x hx
      simp only [List.mem_cons, List.not_mem_nil, or_false] at hx
      rcases hx with rfl | rfl | rfl | rfl | rfl <;> exact ⟨_, rfl, by omega, by omega⟩)
    simp only [e10, w_some, w_ofIf, w_ofMap, vAt_fz, w_var, w_C, k1_, w_1, k2b_, k2_, w_2, kA_, w_A, kMb_, kM_, w_M, w_aNil, kaCb_, kaC_, w_aCons, w_oNo, koAt_i, w_oAt, kSlc_, kSlb_, kSl_, w_Sl, ktB_, w_tB, bl_bl, ktT_, w_tTr, ktAnd_, w_tAnd, ktOr_, w_tOr, ktNot_, w_tNot, w_tYes, kIf_, w_If, kAnd_b, kOr_b, w_And, w_Or, ktL_, kbL_, kbF_, lentT_o, lentT_f, lentB_o, lentB_f, w_tBor, w_Bor, flat_int, flat_bl, flat_str, flat_non, kS_nx, kS_bk, kS_ct, kS_rt, w_Seq, kJ_s, w_J, w_Nx, w_Bk, w_Ct, kSet_, w_Set, kAugb_, kAugc_, kAug_, w_Aug, kParb_, kPar_, w_Par, gAt_some, kAsg_, w_Asg, kDrop_, w_Drop, kRet_, w_Ret, w_RetN, kIfS_, w_IfS, kApp_, kApp2_, appAt_, w_App, kPut_, putAt_, kPut2_, kPut3_, w_Put, w_Frz, frz_eq, frz1_ow, frz1_fz, kSetO_, w_SetO, kUp_, w_Up, kO_, w_O, dAt_, kFz_, w_Fz, rAt_ow, kRetO_, w_RetO, fEnd_rt, fEnd_nx, w_Fn, w_noEx, w_arNil, karb_, kar_, w_arCons, kasb_, kas_, w_arSlot, callAt_, kBack_, kCall_, w_Call, pull_nil, pull_fz, pull_sl, pull1_ow, push_nil, push_fz, push_sl, push1_ow, outs_nil, outs_f, outs_o, gN_ap, gTp_ap, gsNil_ap, gsCons_ap, kFor_, w_For, kiR_, w_iR, kiS_l, kiS_t, kiE_l, kiE_t, kiC_s, w_iC, w_iS, w_iE, kRnd_nx, kRnd_ct, kRnd_bk, kRnd_rt, kLcB_, kLcBO_, kLc_, kLcO_, w_Lc, w_LcO, kLcT_, kLcE_, v_add, v_sub, v_mul, v_div, v_mod, v_pow, v_ltA, v_leA, v_gtA, v_geA, v_eqA, v_neA, v_eqAs, v_eqAb, v_plusI, v_max2i, v_min2i, v_one, v_lenL, v_lenT, v_intI, v_tupL, v_tupT, v_lstL, v_lstT, v_sumL, v_sumT, v_maxL, v_minL, u_isN, u_notN, v_isT, v_not, u_neg, v_slL, v_slT, v_ixL, v_ixT, v_r1, v_r2, v_mulW, v_divW, v_gcdI, v_absI, v_sumR, v_foLstT, v_foLstL, v_foLst, v_tupOf, v_lstOf, o_fz, o_ol, o_nil, o_cons, at0, at1, at2, at3, at4, at5, at6, at7, ix_1_0, ix_2_0, ix_2_1, ix_3_0, ix_3_1, ix_3_2, ix_4_0, ix_4_1, ix_4_2, ix_4_3, ix_5_0, ix_5_1, ix_5_2, ix_5_3, ix_5_4, ix_6_0, ix_6_1, ix_6_2, ix_6_3, ix_6_4, ix_6_5, ix_7_0, ix_7_1, ix_7_2, ix_7_3, ix_7_4, ix_7_5, ix_7_6, ix_8_0, ix_8_1, ix_8_2, ix_8_3, ix_8_4, ix_8_5, ix_8_6, ix_8_7, ix_9_0, ix_9_1, ix_9_2, ix_9_3, ix_9_4, ix_9_5, ix_9_6, ix_9_7, ix_9_8, ix_10_0, ix_10_1, ix_10_2, ix_10_3, ix_10_4, ix_10_5, ix_10_6, ix_10_7, ix_10_8, ix_10_9, ix_11_0, ix_11_1, ix_11_2, ix_11_3, ix_11_4, ix_11_5, ix_11_6, ix_11_7, ix_11_8, ix_11_9, ix_11_10, ix_12_0, ix_12_1, ix_12_2, ix_12_3, ix_12_4, ix_12_5, ix_12_6, ix_12_7, ix_12_8, ix_12_9, ix_12_10, ix_12_11, isT_tuple_non, isT_tuple_bl, isT_tuple_int, isT_tuple_str, isT_tuple_tup, isT_tuple_lst, isT_int_non, isT_int_bl, isT_int_int, isT_int_str, isT_int_tup, isT_int_lst, isT_bool_non, isT_bool_bl, isT_bool_int, isT_bool_str, isT_bool_tup, isT_bool_lst, isT_str_non, isT_str_bl, isT_str_int, isT_str_str, isT_str_tup, isT_str_lst, isT_list_non, isT_list_bl, isT_list_int, isT_list_str, isT_list_tup, isT_list_lst, isN_non, isN_bl, isN_int, isN_str, isN_tup, isN_lst, at_ints, sz_iff, big_iff, div_iff, mod_iff, mul_iff, mulW_iff, divW_iff, pow_iff, List.getElem?_cons_succ, List.getElem?_cons_zero, List.set_cons_zero, List.set_cons_succ, List.cons_append, List.nil_append, List.replicate, Option.map_some, Option.bind_some, decide_eq_true_eq, decide_eq_false_iff_not, Option.some.injEq, exists_eq_left', Bool.not_eq_true', Bool.not_eq_false', Bool.not_true, Bool.not_false, Int.not_lt, Int.not_le, true_and, and_true, if_true, List.length_cons, List.length_nil, List.map_cons, List.map_nil, true_imp_iff, false_imp_iff, imp_self, imp_true_iff, not_true_eq_false, not_false_eq_true, List.length_map, Bool.false_eq_true, if_false, Bool.true_eq_false, reduceCtorEq, nos, backs, Sl.keep, decide_true, decide_false, ilist_map, O.lf, List.contains_cons, List.contains_nil, Bool.and_eq_true, beq_self_eq_true, Bool.or_false, Bool.or_true, Bool.true_or, Bool.false_or, and_self, if_pos, gAt_some, ds_fz, Nat.reduceBEq, Nat.reduceEqDiff, ite_self, rangeD_len, numbered_len, Int.toNat_natCast, Nat.reduceAdd, Int.reduceMod, Int.reduceDiv, Int.reduceLT, Int.reduceLE, Int.reduceNeg, Int.reduceMul, Int.reduceAdd, Int.reduceSub, Int.reducePow, Nat.reduceAdd, Nat.reduceLT, Nat.reduceLeDiff, Int.reduceEq, true_or, or_true, Int.reduceToNat, Int.toNat_zero, Int.toNat_one, List.length_set, List.length_append, List.length_singleton, Int.reduceAbs]
    exact ⟨vs ++ [v], o9, by simp, by simp, fun v' h => (List.mem_append.mp h).elim (hv v') (fun h => by rw [List.mem_singleton.mp h]; exact ⟨hv0, hv1⟩), ho9, rfl⟩
  rintro ys Γ ⟨vs, o6, rfl, hvl, hv, ho6, rfl⟩
  rw [hrl] at hvl
  simp only [w_some, w_ofIf, w_ofMap, vAt_fz, w_var, w_C, k1_, w_1, k2b_, k2_, w_2, kA_, w_A, kMb_, kM_, w_M, w_aNil, kaCb_, kaC_, w_aCons, w_oNo, koAt_i, w_oAt, kSlc_, kSlb_, kSl_, w_Sl, ktB_, w_tB, bl_bl, ktT_, w_tTr, ktAnd_, w_tAnd, ktOr_, w_tOr, ktNot_, w_tNot, w_tYes, kIf_, w_If, kAnd_b, kOr_b, w_And, w_Or, ktL_, kbL_, kbF_, lentT_o, lentT_f, lentB_o, lentB_f, w_tBor, w_Bor, flat_int, flat_bl, flat_str, flat_non, kS_nx, kS_bk, kS_ct, kS_rt, w_Seq, kJ_s, w_J, w_Nx, w_Bk, w_Ct, kSet_, w_Set, kAugb_, kAugc_, kAug_, w_Aug, kParb_, kPar_, w_Par, gAt_some, kAsg_, w_Asg, kDrop_, w_Drop, kRet_, w_Ret, w_RetN, kIfS_, kApp_, kApp2_, appAt_, w_App, kPut_, putAt_, kPut2_, kPut3_, w_Put, w_Frz, frz_eq, frz1_ow, frz1_fz, kSetO_, w_SetO, kUp_, w_Up, kO_, w_O, dAt_, kFz_, w_Fz, rAt_ow, kRetO_, w_RetO, fEnd_rt, fEnd_nx, w_Fn, w_noEx, w_arNil, karb_, kar_, w_arCons, kasb_, kas_, w_arSlot, callAt_, kBack_, kCall_, w_Call, pull_nil, pull_fz, pull_sl, pull1_ow, push_nil, push_fz, push_sl, push1_ow, outs_nil, outs_f, outs_o, gN_ap, gTp_ap, gsNil_ap, gsCons_ap, kFor_, w_For, kiR_, w_iR, kiS_l, kiS_t, kiE_l, kiE_t, kiC_s, w_iC, w_iS, w_iE, kRnd_nx, kRnd_ct, kRnd_bk, kRnd_rt, kLcB_, kLcBO_, kLc_, kLcO_, w_Lc, w_LcO, kLcT_, kLcE_, v_add, v_sub, v_mul, v_div, v_mod, v_pow, v_ltA, v_leA, v_gtA, v_geA, v_eqA, v_neA, v_eqAs, v_eqAb, v_plusI, v_max2i, v_min2i, v_one, v_lenL, v_lenT, v_intI, v_tupL, v_tupT, v_lstL, v_lstT, v_sumL, v_sumT, v_maxL, v_minL, u_isN, u_notN, v_isT, v_not, u_neg, v_slL, v_slT, v_ixL, v_ixT, v_r1, v_r2, v_mulW, v_divW, v_gcdI, v_absI, v_sumR, v_foLstT, v_foLstL, v_foLst, v_tupOf, v_lstOf, o_fz, o_ol, o_nil, o_cons, at0, at1, at2, at3, at4, at5, at6, at7, ix_1_0, ix_2_0, ix_2_1, ix_3_0, ix_3_1, ix_3_2, ix_4_0, ix_4_1, ix_4_2, ix_4_3, ix_5_0, ix_5_1, ix_5_2, ix_5_3, ix_5_4, ix_6_0, ix_6_1, ix_6_2, ix_6_3, ix_6_4, ix_6_5, ix_7_0, ix_7_1, ix_7_2, ix_7_3, ix_7_4, ix_7_5, ix_7_6, ix_8_0, ix_8_1, ix_8_2, ix_8_3, ix_8_4, ix_8_5, ix_8_6, ix_8_7, ix_9_0, ix_9_1, ix_9_2, ix_9_3, ix_9_4, ix_9_5, ix_9_6, ix_9_7, ix_9_8, ix_10_0, ix_10_1, ix_10_2, ix_10_3, ix_10_4, ix_10_5, ix_10_6, ix_10_7, ix_10_8, ix_10_9, ix_11_0, ix_11_1, ix_11_2, ix_11_3, ix_11_4, ix_11_5, ix_11_6, ix_11_7, ix_11_8, ix_11_9, ix_11_10, ix_12_0, ix_12_1, ix_12_2, ix_12_3, ix_12_4, ix_12_5, ix_12_6, ix_12_7, ix_12_8, ix_12_9, ix_12_10, ix_12_11, isT_tuple_non, isT_tuple_bl, isT_tuple_int, isT_tuple_str, isT_tuple_tup, isT_tuple_lst, isT_int_non, isT_int_bl, isT_int_int, isT_int_str, isT_int_tup, isT_int_lst, isT_bool_non, isT_bool_bl, isT_bool_int, isT_bool_str, isT_bool_tup, isT_bool_lst, isT_str_non, isT_str_bl, isT_str_int, isT_str_str, isT_str_tup, isT_str_lst, isT_list_non, isT_list_bl, isT_list_int, isT_list_str, isT_list_tup, isT_list_lst, isN_non, isN_bl, isN_int, isN_str, isN_tup, isN_lst, at_ints, sz_iff, big_iff, div_iff, mod_iff, mul_iff, mulW_iff, divW_iff, pow_iff, List.getElem?_cons_succ, List.getElem?_cons_zero, List.set_cons_zero, List.set_cons_succ, List.cons_append, List.nil_append, List.replicate, Option.map_some, Option.bind_some, decide_eq_true_eq, decide_eq_false_iff_not, Option.some.injEq, exists_eq_left', Bool.not_eq_true', Bool.not_eq_false', Bool.not_true, Bool.not_false, Int.not_lt, Int.not_le, true_and, and_true, if_true, List.length_cons, List.length_nil, List.map_cons, List.map_nil, true_imp_iff, false_imp_iff, imp_self, imp_true_iff, not_true_eq_false, not_false_eq_true, List.length_map, Bool.false_eq_true, if_false, Bool.true_eq_false, reduceCtorEq, nos, backs, Sl.keep, decide_true, decide_false, ilist_map, O.lf, List.contains_cons, List.contains_nil, Bool.and_eq_true, beq_self_eq_true, Bool.or_false, Bool.or_true, Bool.true_or, Bool.false_or, and_self, if_pos, gAt_some, ds_fz, Nat.reduceBEq, Nat.reduceEqDiff, ite_self, rangeD_len, numbered_len, Int.toNat_natCast, Nat.reduceAdd, Int.reduceMod, Int.reduceDiv, Int.reduceLT, Int.reduceLE, Int.reduceNeg, Int.reduceMul, Int.reduceAdd, Int.reduceSub, Int.reducePow, Nat.reduceAdd, Nat.reduceLT, Nat.reduceLeDiff, Int.reduceEq, true_or, or_true, Int.reduceToNat, Int.toNat_zero, Int.toNat_one, List.length_set, List.length_append, List.length_singleton, Int.reduceAbs]
  refine w_mono (P := fun f Γ => f = .nx ∧ ∃ vs : List Int, ∃ o', vs.length = n ∧ (∀ v ∈ vs, 0 ≤ v ∧ v < 100000) ∧ FeedOk o' ∧ Γ = [.ow (some 0) o', .fz (.int m), .fz (.int n), .fz (.int x4), .fz (.int number), .ow none (.ol ((vs.map D.int).map O.fz)), .no, .no]) ?_ ?_
  · simp only [w_some, w_ofIf, w_ofMap, vAt_fz, w_var, w_C, k1_, w_1, k2b_, k2_, w_2, kA_, w_A, kMb_, kM_, w_M, w_aNil, kaCb_, kaC_, w_aCons, w_oNo, koAt_i, w_oAt, kSlc_, kSlb_, kSl_, w_Sl, ktB_, w_tB, bl_bl, ktT_, w_tTr, ktAnd_, w_tAnd, ktOr_, w_tOr, ktNot_, w_tNot, w_tYes, kIf_, w_If, kAnd_b, kOr_b, w_And, w_Or, ktL_, kbL_, kbF_, lentT_o, lentT_f, lentB_o, lentB_f, w_tBor, w_Bor, flat_int, flat_bl, flat_str, flat_non, kS_nx, kS_bk, kS_ct, kS_rt, w_Seq, kJ_s, w_J, w_Nx, w_Bk, w_Ct, kSet_, w_Set, kAugb_, kAugc_, kAug_, w_Aug, kParb_, kPar_, w_Par, gAt_some, kAsg_, w_Asg, kDrop_, w_Drop, kRet_, w_Ret, w_RetN, kIfS_, w_IfS, kApp_, kApp2_, appAt_, w_App, kPut_, putAt_, kPut2_, kPut3_, w_Put, w_Frz, frz_eq, frz1_ow, frz1_fz, kSetO_, w_SetO, kUp_, w_Up, kO_, w_O, dAt_, kFz_, w_Fz, rAt_ow, kRetO_, w_RetO, fEnd_rt, fEnd_nx, w_Fn, w_noEx, w_arNil, karb_, kar_, w_arCons, kasb_, kas_, w_arSlot, callAt_, kBack_, kCall_, w_Call, pull_nil, pull_fz, pull_sl, pull1_ow, push_nil, push_fz, push_sl, push1_ow, outs_nil, outs_f, outs_o, gN_ap, gTp_ap, gsNil_ap, gsCons_ap, kFor_, w_For, kiR_, w_iR, kiS_l, kiS_t, kiE_l, kiE_t, kiC_s, w_iC, w_iS, w_iE, kRnd_nx, kRnd_ct, kRnd_bk, kRnd_rt, kLcB_, kLcBO_, kLc_, kLcO_, w_Lc, w_LcO, kLcT_, kLcE_, v_add, v_sub, v_mul, v_div, v_mod, v_pow, v_ltA, v_leA, v_gtA, v_geA, v_eqA, v_neA, v_eqAs, v_eqAb, v_plusI, v_max2i, v_min2i, v_one, v_lenL, v_lenT, v_intI, v_tupL, v_tupT, v_lstL, v_lstT, v_sumL, v_sumT, v_maxL, v_minL, u_isN, u_notN, v_isT, v_not, u_neg, v_slL, v_slT, v_ixL, v_ixT, v_r1, v_r2, v_mulW, v_divW, v_gcdI, v_absI, v_sumR, v_foLstT, v_foLstL, v_foLst, v_tupOf, v_lstOf, o_fz, o_ol, o_nil, o_cons, at0, at1, at2, at3, at4, at5, at6, at7, ix_1_0, ix_2_0, ix_2_1, ix_3_0, ix_3_1, ix_3_2, ix_4_0, ix_4_1, ix_4_2, ix_4_3, ix_5_0, ix_5_1, ix_5_2, ix_5_3, ix_5_4, ix_6_0, ix_6_1, ix_6_2, ix_6_3, ix_6_4, ix_6_5, ix_7_0, ix_7_1, ix_7_2, ix_7_3, ix_7_4, ix_7_5, ix_7_6, ix_8_0, ix_8_1, ix_8_2, ix_8_3, ix_8_4, ix_8_5, ix_8_6, ix_8_7, ix_9_0, ix_9_1, ix_9_2, ix_9_3, ix_9_4, ix_9_5, ix_9_6, ix_9_7, ix_9_8, ix_10_0, ix_10_1, ix_10_2, ix_10_3, ix_10_4, ix_10_5, ix_10_6, ix_10_7, ix_10_8, ix_10_9, ix_11_0, ix_11_1, ix_11_2, ix_11_3, ix_11_4, ix_11_5, ix_11_6, ix_11_7, ix_11_8, ix_11_9, ix_11_10, ix_12_0, ix_12_1, ix_12_2, ix_12_3, ix_12_4, ix_12_5, ix_12_6, ix_12_7, ix_12_8, ix_12_9, ix_12_10, ix_12_11, isT_tuple_non, isT_tuple_bl, isT_tuple_int, isT_tuple_str, isT_tuple_tup, isT_tuple_lst, isT_int_non, isT_int_bl, isT_int_int, isT_int_str, isT_int_tup, isT_int_lst, isT_bool_non, isT_bool_bl, isT_bool_int, isT_bool_str, isT_bool_tup, isT_bool_lst, isT_str_non, isT_str_bl, isT_str_int, isT_str_str, isT_str_tup, isT_str_lst, isT_list_non, isT_list_bl, isT_list_int, isT_list_str, isT_list_tup, isT_list_lst, isN_non, isN_bl, isN_int, isN_str, isN_tup, isN_lst, at_ints, sz_iff, big_iff, div_iff, mod_iff, mul_iff, mulW_iff, divW_iff, pow_iff, List.getElem?_cons_succ, List.getElem?_cons_zero, List.set_cons_zero, List.set_cons_succ, List.cons_append, List.nil_append, List.replicate, Option.map_some, Option.bind_some, decide_eq_true_eq, decide_eq_false_iff_not, Option.some.injEq, exists_eq_left', Bool.not_eq_true', Bool.not_eq_false', Bool.not_true, Bool.not_false, Int.not_lt, Int.not_le, true_and, and_true, if_true, List.length_cons, List.length_nil, List.map_cons, List.map_nil, true_imp_iff, false_imp_iff, imp_self, imp_true_iff, not_true_eq_false, not_false_eq_true, List.length_map, Bool.false_eq_true, if_false, Bool.true_eq_false, reduceCtorEq, nos, backs, Sl.keep, decide_true, decide_false, ilist_map, O.lf, List.contains_cons, List.contains_nil, Bool.and_eq_true, beq_self_eq_true, Bool.or_false, Bool.or_true, Bool.true_or, Bool.false_or, and_self, if_pos, gAt_some, ds_fz, Nat.reduceBEq, Nat.reduceEqDiff, ite_self, rangeD_len, numbered_len, Int.toNat_natCast, Nat.reduceAdd, Int.reduceMod, Int.reduceDiv, Int.reduceLT, Int.reduceLE, Int.reduceNeg, Int.reduceMul, Int.reduceAdd, Int.reduceSub, Int.reducePow, Nat.reduceAdd, Nat.reduceLT, Nat.reduceLeDiff, Int.reduceEq, true_or, or_true, Int.reduceToNat, Int.toNat_zero, Int.toNat_one, List.length_set, List.length_append, List.length_singleton, Int.reduceAbs]
    refine ⟨fun h => ⟨fun h2 => ?_, fun h2 => ⟨vs, o6, hvl, hv, ho6, rfl⟩⟩, fun h => ⟨vs, o6, hvl, hv, ho6, rfl⟩⟩
    refine draw_wp (by assumption) (by omega) (by omega) fun x7 o7 hx7 kx7 ho7 => ?_; simp only [w_some, w_ofIf, w_ofMap, vAt_fz, w_var, w_C, k1_, w_1, k2b_, k2_, w_2, kA_, w_A, kMb_, kM_, w_M, w_aNil, kaCb_, kaC_, w_aCons, w_oNo, koAt_i, w_oAt, kSlc_, kSlb_, kSl_, w_Sl, ktB_, w_tB, bl_bl, ktT_, w_tTr, ktAnd_, w_tAnd, ktOr_, w_tOr, ktNot_, w_tNot, w_tYes, kIf_, w_If, kAnd_b, kOr_b, w_And, w_Or, ktL_, kbL_, kbF_, lentT_o, lentT_f, lentB_o, lentB_f, w_tBor, w_Bor, flat_int, flat_bl, flat_str, flat_non, kS_nx, kS_bk, kS_ct, kS_rt, w_Seq, kJ_s, w_J, w_Nx, w_Bk, w_Ct, kSet_, w_Set, kAugb_, kAugc_, kAug_, w_Aug, kParb_, kPar_, w_Par, gAt_some, kAsg_, w_Asg, kDrop_, w_Drop, kRet_, w_Ret, w_RetN, kIfS_, w_IfS, kApp_, kApp2_, appAt_, w_App, kPut_, putAt_, kPut2_, kPut3_, w_Put, w_Frz, frz_eq, frz1_ow, frz1_fz, kSetO_, w_SetO, kUp_, w_Up, kO_, w_O, dAt_, kFz_, w_Fz, rAt_ow, kRetO_, w_RetO, fEnd_rt, fEnd_nx, w_Fn, w_noEx, w_arNil, karb_, kar_, w_arCons, kasb_, kas_, w_arSlot, callAt_, kBack_, kCall_, w_Call, pull_nil, pull_fz, pull_sl, pull1_ow, push_nil, push_fz, push_sl, push1_ow, outs_nil, outs_f, outs_o, gN_ap, gTp_ap, gsNil_ap, gsCons_ap, kFor_, w_For, kiR_, w_iR, kiS_l, kiS_t, kiE_l, kiE_t, kiC_s, w_iC, w_iS, w_iE, kRnd_nx, kRnd_ct, kRnd_bk, kRnd_rt, kLcB_, kLcBO_, kLc_, kLcO_, w_Lc, w_LcO, kLcT_, kLcE_, v_add, v_sub, v_mul, v_div, v_mod, v_pow, v_ltA, v_leA, v_gtA, v_geA, v_eqA, v_neA, v_eqAs, v_eqAb, v_plusI, v_max2i, v_min2i, v_one, v_lenL, v_lenT, v_intI, v_tupL, v_tupT, v_lstL, v_lstT, v_sumL, v_sumT, v_maxL, v_minL, u_isN, u_notN, v_isT, v_not, u_neg, v_slL, v_slT, v_ixL, v_ixT, v_r1, v_r2, v_mulW, v_divW, v_gcdI, v_absI, v_sumR, v_foLstT, v_foLstL, v_foLst, v_tupOf, v_lstOf, o_fz, o_ol, o_nil, o_cons, at0, at1, at2, at3, at4, at5, at6, at7, ix_1_0, ix_2_0, ix_2_1, ix_3_0, ix_3_1, ix_3_2, ix_4_0, ix_4_1, ix_4_2, ix_4_3, ix_5_0, ix_5_1, ix_5_2, ix_5_3, ix_5_4, ix_6_0, ix_6_1, ix_6_2, ix_6_3, ix_6_4, ix_6_5, ix_7_0, ix_7_1, ix_7_2, ix_7_3, ix_7_4, ix_7_5, ix_7_6, ix_8_0, ix_8_1, ix_8_2, ix_8_3, ix_8_4, ix_8_5, ix_8_6, ix_8_7, ix_9_0, ix_9_1, ix_9_2, ix_9_3, ix_9_4, ix_9_5, ix_9_6, ix_9_7, ix_9_8, ix_10_0, ix_10_1, ix_10_2, ix_10_3, ix_10_4, ix_10_5, ix_10_6, ix_10_7, ix_10_8, ix_10_9, ix_11_0, ix_11_1, ix_11_2, ix_11_3, ix_11_4, ix_11_5, ix_11_6, ix_11_7, ix_11_8, ix_11_9, ix_11_10, ix_12_0, ix_12_1, ix_12_2, ix_12_3, ix_12_4, ix_12_5, ix_12_6, ix_12_7, ix_12_8, ix_12_9, ix_12_10, ix_12_11, isT_tuple_non, isT_tuple_bl, isT_tuple_int, isT_tuple_str, isT_tuple_tup, isT_tuple_lst, isT_int_non, isT_int_bl, isT_int_int, isT_int_str, isT_int_tup, isT_int_lst, isT_bool_non, isT_bool_bl, isT_bool_int, isT_bool_str, isT_bool_tup, isT_bool_lst, isT_str_non, isT_str_bl, isT_str_int, isT_str_str, isT_str_tup, isT_str_lst, isT_list_non, isT_list_bl, isT_list_int, isT_list_str, isT_list_tup, isT_list_lst, isN_non, isN_bl, isN_int, isN_str, isN_tup, isN_lst, at_ints, sz_iff, big_iff, div_iff, mod_iff, mul_iff, mulW_iff, divW_iff, pow_iff, List.getElem?_cons_succ, List.getElem?_cons_zero, List.set_cons_zero, List.set_cons_succ, List.cons_append, List.nil_append, List.replicate, Option.map_some, Option.bind_some, decide_eq_true_eq, decide_eq_false_iff_not, Option.some.injEq, exists_eq_left', Bool.not_eq_true', Bool.not_eq_false', Bool.not_true, Bool.not_false, Int.not_lt, Int.not_le, true_and, and_true, if_true, List.length_cons, List.length_nil, List.map_cons, List.map_nil, true_imp_iff, false_imp_iff, imp_self, imp_true_iff, not_true_eq_false, not_false_eq_true, List.length_map, Bool.false_eq_true, if_false, Bool.true_eq_false, reduceCtorEq, nos, backs, Sl.keep, decide_true, decide_false, ilist_map, O.lf, List.contains_cons, List.contains_nil, Bool.and_eq_true, beq_self_eq_true, Bool.or_false, Bool.or_true, Bool.true_or, Bool.false_or, and_self, if_pos, gAt_some, ds_fz, Nat.reduceBEq, Nat.reduceEqDiff, ite_self, rangeD_len, numbered_len, Int.toNat_natCast, Nat.reduceAdd, Int.reduceMod, Int.reduceDiv, Int.reduceLT, Int.reduceLE, Int.reduceNeg, Int.reduceMul, Int.reduceAdd, Int.reduceSub, Int.reducePow, Nat.reduceAdd, Nat.reduceLT, Nat.reduceLeDiff, Int.reduceEq, true_or, or_true, Int.reduceToNat, Int.toNat_zero, Int.toNat_one, List.length_set, List.length_append, List.length_singleton, Int.reduceAbs]
    refine ⟨_, ixN_nat hx7 (by omega), vs.set x7.toNat number, o7, by simpa using hvl, fun v h => ?_, ho7, by rw [List.map_set, List.map_set]⟩
    rcases List.mem_or_eq_of_mem_set h with h | h
    · exact hv v h
    · rw [h]; exact ⟨hnumber, knumber⟩
  rintro _ _ ⟨rfl, vs, o7, hvl, hv, ho7, rfl⟩
  simp only [w_some, w_ofIf, w_ofMap, vAt_fz, w_var, w_C, k1_, w_1, k2b_, k2_, w_2, kA_, w_A, kMb_, kM_, w_M, w_aNil, kaCb_, kaC_, w_aCons, w_oNo, koAt_i, w_oAt, kSlc_, kSlb_, kSl_, w_Sl, ktB_, w_tB, bl_bl, ktT_, w_tTr, ktAnd_, w_tAnd, ktOr_, w_tOr, ktNot_, w_tNot, w_tYes, kIf_, w_If, kAnd_b, kOr_b, w_And, w_Or, ktL_, kbL_, kbF_, lentT_o, lentT_f, lentB_o, lentB_f, w_tBor, w_Bor, flat_int, flat_bl, flat_str, flat_non, kS_nx, kS_bk, kS_ct, kS_rt, w_Seq, kJ_s, w_J, w_Nx, w_Bk, w_Ct, kSet_, w_Set, kAugb_, kAugc_, kAug_, w_Aug, kParb_, kPar_, w_Par, gAt_some, kAsg_, w_Asg, kDrop_, w_Drop, kRet_, w_Ret, w_RetN, kIfS_, w_IfS, kApp_, kApp2_, appAt_, w_App, kPut_, putAt_, kPut2_, kPut3_, w_Put, w_Frz, frz_eq, frz1_ow, frz1_fz, kSetO_, w_SetO, kUp_, w_Up, kO_, w_O, dAt_, kFz_, w_Fz, rAt_ow, kRetO_, w_RetO, fEnd_rt, fEnd_nx, w_Fn, w_noEx, w_arNil, karb_, kar_, w_arCons, kasb_, kas_, w_arSlot, callAt_, kBack_, kCall_, w_Call, pull_nil, pull_fz, pull_sl, pull1_ow, push_nil, push_fz, push_sl, push1_ow, outs_nil, outs_f, outs_o, gN_ap, gTp_ap, gsNil_ap, gsCons_ap, kFor_, w_For, kiR_, w_iR, kiS_l, kiS_t, kiE_l, kiE_t, kiC_s, w_iC, w_iS, w_iE, kRnd_nx, kRnd_ct, kRnd_bk, kRnd_rt, kLcB_, kLcBO_, kLc_, kLcO_, w_Lc, w_LcO, kLcT_, kLcE_, v_add, v_sub, v_mul, v_div, v_mod, v_pow, v_ltA, v_leA, v_gtA, v_geA, v_eqA, v_neA, v_eqAs, v_eqAb, v_plusI, v_max2i, v_min2i, v_one, v_lenL, v_lenT, v_intI, v_tupL, v_tupT, v_lstL, v_lstT, v_sumL, v_sumT, v_maxL, v_minL, u_isN, u_notN, v_isT, v_not, u_neg, v_slL, v_slT, v_ixL, v_ixT, v_r1, v_r2, v_mulW, v_divW, v_gcdI, v_absI, v_sumR, v_foLstT, v_foLstL, v_foLst, v_tupOf, v_lstOf, o_fz, o_ol, o_nil, o_cons, at0, at1, at2, at3, at4, at5, at6, at7, ix_1_0, ix_2_0, ix_2_1, ix_3_0, ix_3_1, ix_3_2, ix_4_0, ix_4_1, ix_4_2, ix_4_3, ix_5_0, ix_5_1, ix_5_2, ix_5_3, ix_5_4, ix_6_0, ix_6_1, ix_6_2, ix_6_3, ix_6_4, ix_6_5, ix_7_0, ix_7_1, ix_7_2, ix_7_3, ix_7_4, ix_7_5, ix_7_6, ix_8_0, ix_8_1, ix_8_2, ix_8_3, ix_8_4, ix_8_5, ix_8_6, ix_8_7, ix_9_0, ix_9_1, ix_9_2, ix_9_3, ix_9_4, ix_9_5, ix_9_6, ix_9_7, ix_9_8, ix_10_0, ix_10_1, ix_10_2, ix_10_3, ix_10_4, ix_10_5, ix_10_6, ix_10_7, ix_10_8, ix_10_9, ix_11_0, ix_11_1, ix_11_2, ix_11_3, ix_11_4, ix_11_5, ix_11_6, ix_11_7, ix_11_8, ix_11_9, ix_11_10, ix_12_0, ix_12_1, ix_12_2, ix_12_3, ix_12_4, ix_12_5, ix_12_6, ix_12_7, ix_12_8, ix_12_9, ix_12_10, ix_12_11, isT_tuple_non, isT_tuple_bl, isT_tuple_int, isT_tuple_str, isT_tuple_tup, isT_tuple_lst, isT_int_non, isT_int_bl, isT_int_int, isT_int_str, isT_int_tup, isT_int_lst, isT_bool_non, isT_bool_bl, isT_bool_int, isT_bool_str, isT_bool_tup, isT_bool_lst, isT_str_non, isT_str_bl, isT_str_int, isT_str_str, isT_str_tup, isT_str_lst, isT_list_non, isT_list_bl, isT_list_int, isT_list_str, isT_list_tup, isT_list_lst, isN_non, isN_bl, isN_int, isN_str, isN_tup, isN_lst, at_ints, sz_iff, big_iff, div_iff, mod_iff, mul_iff, mulW_iff, divW_iff, pow_iff, List.getElem?_cons_succ, List.getElem?_cons_zero, List.set_cons_zero, List.set_cons_succ, List.cons_append, List.nil_append, List.replicate, Option.map_some, Option.bind_some, decide_eq_true_eq, decide_eq_false_iff_not, Option.some.injEq, exists_eq_left', Bool.not_eq_true', Bool.not_eq_false', Bool.not_true, Bool.not_false, Int.not_lt, Int.not_le, true_and, and_true, if_true, List.length_cons, List.length_nil, List.map_cons, List.map_nil, true_imp_iff, false_imp_iff, imp_self, imp_true_iff, not_true_eq_false, not_false_eq_true, List.length_map, Bool.false_eq_true, if_false, Bool.true_eq_false, reduceCtorEq, nos, backs, Sl.keep, decide_true, decide_false, ilist_map, O.lf, List.contains_cons, List.contains_nil, Bool.and_eq_true, beq_self_eq_true, Bool.or_false, Bool.or_true, Bool.true_or, Bool.false_or, and_self, if_pos, gAt_some, ds_fz, Nat.reduceBEq, Nat.reduceEqDiff, ite_self, rangeD_len, numbered_len, Int.toNat_natCast, Nat.reduceAdd, Int.reduceMod, Int.reduceDiv, Int.reduceLT, Int.reduceLE, Int.reduceNeg, Int.reduceMul, Int.reduceAdd, Int.reduceSub, Int.reducePow, Nat.reduceAdd, Nat.reduceLT, Nat.reduceLeDiff, Int.reduceEq, true_or, or_true, Int.reduceToNat, Int.toNat_zero, Int.toNat_one, List.length_set, List.length_append, List.length_singleton, Int.reduceAbs]
  refine w_okw (words_ok (n := n) ho7 (by omega)) ?_
  rintro _ _ ⟨ws, o8, rfl, hws, hwl, ho8, rfl⟩
  simp only [w_some, w_ofIf, w_ofMap, vAt_fz, w_var, w_C, k1_, w_1, k2b_, k2_, w_2, kA_, w_A, kMb_, kM_, w_M, w_aNil, kaCb_, kaC_, w_aCons, w_oNo, koAt_i, w_oAt, kSlc_, kSlb_, kSl_, w_Sl, ktB_, w_tB, bl_bl, ktT_, w_tTr, ktAnd_, w_tAnd, ktOr_, w_tOr, ktNot_, w_tNot, w_tYes, kIf_, w_If, kAnd_b, kOr_b, w_And, w_Or, ktL_, kbL_, kbF_, lentT_o, lentT_f, lentB_o, lentB_f, w_tBor, w_Bor, flat_int, flat_bl, flat_str, flat_non, kS_nx, kS_bk, kS_ct, kS_rt, w_Seq, kJ_s, w_J, w_Nx, w_Bk, w_Ct, kSet_, w_Set, kAugb_, kAugc_, kAug_, w_Aug, kParb_, kPar_, w_Par, gAt_some, kAsg_, w_Asg, kDrop_, w_Drop, kRet_, w_Ret, w_RetN, kIfS_, w_IfS, kApp_, kApp2_, appAt_, w_App, kPut_, putAt_, kPut2_, kPut3_, w_Put, w_Frz, frz_eq, frz1_ow, frz1_fz, kSetO_, w_SetO, kUp_, w_Up, kO_, w_O, dAt_, kFz_, w_Fz, rAt_ow, kRetO_, w_RetO, fEnd_rt, fEnd_nx, w_Fn, w_noEx, w_arNil, karb_, kar_, w_arCons, kasb_, kas_, w_arSlot, callAt_, kBack_, kCall_, w_Call, pull_nil, pull_fz, pull_sl, pull1_ow, push_nil, push_fz, push_sl, push1_ow, outs_nil, outs_f, outs_o, gN_ap, gTp_ap, gsNil_ap, gsCons_ap, kFor_, w_For, kiR_, w_iR, kiS_l, kiS_t, kiE_l, kiE_t, kiC_s, w_iC, w_iS, w_iE, kRnd_nx, kRnd_ct, kRnd_bk, kRnd_rt, kLcB_, kLcBO_, kLc_, kLcO_, w_Lc, w_LcO, kLcT_, kLcE_, v_add, v_sub, v_mul, v_div, v_mod, v_pow, v_ltA, v_leA, v_gtA, v_geA, v_eqA, v_neA, v_eqAs, v_eqAb, v_plusI, v_max2i, v_min2i, v_one, v_lenL, v_lenT, v_intI, v_tupL, v_tupT, v_lstL, v_lstT, v_sumL, v_sumT, v_maxL, v_minL, u_isN, u_notN, v_isT, v_not, u_neg, v_slL, v_slT, v_ixL, v_ixT, v_r1, v_r2, v_mulW, v_divW, v_gcdI, v_absI, v_sumR, v_foLstT, v_foLstL, v_foLst, v_tupOf, v_lstOf, o_fz, o_ol, o_nil, o_cons, at0, at1, at2, at3, at4, at5, at6, at7, ix_1_0, ix_2_0, ix_2_1, ix_3_0, ix_3_1, ix_3_2, ix_4_0, ix_4_1, ix_4_2, ix_4_3, ix_5_0, ix_5_1, ix_5_2, ix_5_3, ix_5_4, ix_6_0, ix_6_1, ix_6_2, ix_6_3, ix_6_4, ix_6_5, ix_7_0, ix_7_1, ix_7_2, ix_7_3, ix_7_4, ix_7_5, ix_7_6, ix_8_0, ix_8_1, ix_8_2, ix_8_3, ix_8_4, ix_8_5, ix_8_6, ix_8_7, ix_9_0, ix_9_1, ix_9_2, ix_9_3, ix_9_4, ix_9_5, ix_9_6, ix_9_7, ix_9_8, ix_10_0, ix_10_1, ix_10_2, ix_10_3, ix_10_4, ix_10_5, ix_10_6, ix_10_7, ix_10_8, ix_10_9, ix_11_0, ix_11_1, ix_11_2, ix_11_3, ix_11_4, ix_11_5, ix_11_6, ix_11_7, ix_11_8, ix_11_9, ix_11_10, ix_12_0, ix_12_1, ix_12_2, ix_12_3, ix_12_4, ix_12_5, ix_12_6, ix_12_7, ix_12_8, ix_12_9, ix_12_10, ix_12_11, isT_tuple_non, isT_tuple_bl, isT_tuple_int, isT_tuple_str, isT_tuple_tup, isT_tuple_lst, isT_int_non, isT_int_bl, isT_int_int, isT_int_str, isT_int_tup, isT_int_lst, isT_bool_non, isT_bool_bl, isT_bool_int, isT_bool_str, isT_bool_tup, isT_bool_lst, isT_str_non, isT_str_bl, isT_str_int, isT_str_str, isT_str_tup, isT_str_lst, isT_list_non, isT_list_bl, isT_list_int, isT_list_str, isT_list_tup, isT_list_lst, isN_non, isN_bl, isN_int, isN_str, isN_tup, isN_lst, at_ints, sz_iff, big_iff, div_iff, mod_iff, mul_iff, mulW_iff, divW_iff, pow_iff, List.getElem?_cons_succ, List.getElem?_cons_zero, List.set_cons_zero, List.set_cons_succ, List.cons_append, List.nil_append, List.replicate, Option.map_some, Option.bind_some, decide_eq_true_eq, decide_eq_false_iff_not, Option.some.injEq, exists_eq_left', Bool.not_eq_true', Bool.not_eq_false', Bool.not_true, Bool.not_false, Int.not_lt, Int.not_le, true_and, and_true, if_true, List.length_cons, List.length_nil, List.map_cons, List.map_nil, true_imp_iff, false_imp_iff, imp_self, imp_true_iff, not_true_eq_false, not_false_eq_true, List.length_map, Bool.false_eq_true, if_false, Bool.true_eq_false, reduceCtorEq, nos, backs, Sl.keep, decide_true, decide_false, ilist_map, O.lf, List.contains_cons, List.contains_nil, Bool.and_eq_true, beq_self_eq_true, Bool.or_false, Bool.or_true, Bool.true_or, Bool.false_or, and_self, if_pos, gAt_some, ds_fz, Nat.reduceBEq, Nat.reduceEqDiff, ite_self, rangeD_len, numbered_len, Int.toNat_natCast, Nat.reduceAdd, Int.reduceMod, Int.reduceDiv, Int.reduceLT, Int.reduceLE, Int.reduceNeg, Int.reduceMul, Int.reduceAdd, Int.reduceSub, Int.reducePow, Nat.reduceAdd, Nat.reduceLT, Nat.reduceLeDiff, Int.reduceEq, true_or, or_true, Int.reduceToNat, Int.toNat_zero, Int.toNat_one, List.length_set, List.length_append, List.length_singleton, Int.reduceAbs, ds_fz]
  refine ⟨by omega, by omega, ?_⟩
  refine w_lcK (fun k ys Γ => ys = ((ws.zip vs).take k).map itD ∧ Γ = [.ow (some 0) o8, .fz (.int m), .fz (.int n), .fz (.int x4), .fz (.int number), .fz (.lst (vs.map D.int)), .fz (.lst (ws.map D.str)), .no]) ⟨rfl, rfl⟩ ?_ ?_
  · rintro k d ys Γ hd ⟨rfl, rfl⟩
    obtain ⟨hk, rfl⟩ := rangeD_get0 hd
    have hk : k < n := by omega
    have hz : k < (ws.zip vs).length := by simp; omega
    have e1 : atI (ws.map D.str) (k : Int) = some (.str ws[k]) := DL.atI_nat (by rw [List.getElem?_map, List.getElem?_eq_getElem (by omega)]; rfl)
    have e2 : atI (vs.map D.int) (k : Int) = some (.int vs[k]) := DL.atI_nat (by rw [List.getElem?_map, List.getElem?_eq_getElem (by omega)]; rfl)
    simp only [w_some, w_ofIf, w_ofMap, vAt_fz, w_var, w_C, k1_, w_1, k2b_, k2_, w_2, kA_, w_A, kMb_, kM_, w_M, w_aNil, kaCb_, kaC_, w_aCons, w_oNo, koAt_i, w_oAt, kSlc_, kSlb_, kSl_, w_Sl, ktB_, w_tB, bl_bl, ktT_, w_tTr, ktAnd_, w_tAnd, ktOr_, w_tOr, ktNot_, w_tNot, w_tYes, kIf_, w_If, kAnd_b, kOr_b, w_And, w_Or, ktL_, kbL_, kbF_, lentT_o, lentT_f, lentB_o, lentB_f, w_tBor, w_Bor, flat_int, flat_bl, flat_str, flat_non, kS_nx, kS_bk, kS_ct, kS_rt, w_Seq, kJ_s, w_J, w_Nx, w_Bk, w_Ct, kSet_, w_Set, kAugb_, kAugc_, kAug_, w_Aug, kParb_, kPar_, w_Par, gAt_some, kAsg_, w_Asg, kDrop_, w_Drop, kRet_, w_Ret, w_RetN, kIfS_, w_IfS, kApp_, kApp2_, appAt_, w_App, kPut_, putAt_, kPut2_, kPut3_, w_Put, w_Frz, frz_eq, frz1_ow, frz1_fz, kSetO_, w_SetO, kUp_, w_Up, kO_, w_O, dAt_, kFz_, w_Fz, rAt_ow, kRetO_, w_RetO, fEnd_rt, fEnd_nx, w_Fn, w_noEx, w_arNil, karb_, kar_, w_arCons, kasb_, kas_, w_arSlot, callAt_, kBack_, kCall_, w_Call, pull_nil, pull_fz, pull_sl, pull1_ow, push_nil, push_fz, push_sl, push1_ow, outs_nil, outs_f, outs_o, gN_ap, gTp_ap, gsNil_ap, gsCons_ap, kFor_, w_For, kiR_, w_iR, kiS_l, kiS_t, kiE_l, kiE_t, kiC_s, w_iC, w_iS, w_iE, kRnd_nx, kRnd_ct, kRnd_bk, kRnd_rt, kLcB_, kLcBO_, kLc_, kLcO_, w_Lc, w_LcO, kLcT_, kLcE_, v_add, v_sub, v_mul, v_div, v_mod, v_pow, v_ltA, v_leA, v_gtA, v_geA, v_eqA, v_neA, v_eqAs, v_eqAb, v_plusI, v_max2i, v_min2i, v_one, v_lenL, v_lenT, v_intI, v_tupL, v_tupT, v_lstL, v_lstT, v_sumL, v_sumT, v_maxL, v_minL, u_isN, u_notN, v_isT, v_not, u_neg, v_slL, v_slT, v_ixL, v_ixT, v_r1, v_r2, v_mulW, v_divW, v_gcdI, v_absI, v_sumR, v_foLstT, v_foLstL, v_foLst, v_tupOf, v_lstOf, o_fz, o_ol, o_nil, o_cons, at0, at1, at2, at3, at4, at5, at6, at7, ix_1_0, ix_2_0, ix_2_1, ix_3_0, ix_3_1, ix_3_2, ix_4_0, ix_4_1, ix_4_2, ix_4_3, ix_5_0, ix_5_1, ix_5_2, ix_5_3, ix_5_4, ix_6_0, ix_6_1, ix_6_2, ix_6_3, ix_6_4, ix_6_5, ix_7_0, ix_7_1, ix_7_2, ix_7_3, ix_7_4, ix_7_5, ix_7_6, ix_8_0, ix_8_1, ix_8_2, ix_8_3, ix_8_4, ix_8_5, ix_8_6, ix_8_7, ix_9_0, ix_9_1, ix_9_2, ix_9_3, ix_9_4, ix_9_5, ix_9_6, ix_9_7, ix_9_8, ix_10_0, ix_10_1, ix_10_2, ix_10_3, ix_10_4, ix_10_5, ix_10_6, ix_10_7, ix_10_8, ix_10_9, ix_11_0, ix_11_1, ix_11_2, ix_11_3, ix_11_4, ix_11_5, ix_11_6, ix_11_7, ix_11_8, ix_11_9, ix_11_10, ix_12_0, ix_12_1, ix_12_2, ix_12_3, ix_12_4, ix_12_5, ix_12_6, ix_12_7, ix_12_8, ix_12_9, ix_12_10, ix_12_11, isT_tuple_non, isT_tuple_bl, isT_tuple_int, isT_tuple_str, isT_tuple_tup, isT_tuple_lst, isT_int_non, isT_int_bl, isT_int_int, isT_int_str, isT_int_tup, isT_int_lst, isT_bool_non, isT_bool_bl, isT_bool_int, isT_bool_str, isT_bool_tup, isT_bool_lst, isT_str_non, isT_str_bl, isT_str_int, isT_str_str, isT_str_tup, isT_str_lst, isT_list_non, isT_list_bl, isT_list_int, isT_list_str, isT_list_tup, isT_list_lst, isN_non, isN_bl, isN_int, isN_str, isN_tup, isN_lst, sz_iff, big_iff, div_iff, mod_iff, mul_iff, mulW_iff, divW_iff, pow_iff, List.getElem?_cons_succ, List.getElem?_cons_zero, List.set_cons_zero, List.set_cons_succ, List.cons_append, List.nil_append, List.replicate, Option.map_some, Option.bind_some, decide_eq_true_eq, decide_eq_false_iff_not, Option.some.injEq, exists_eq_left', Bool.not_eq_true', Bool.not_eq_false', Bool.not_true, Bool.not_false, Int.not_lt, Int.not_le, true_and, and_true, if_true, List.length_cons, List.length_nil, List.map_cons, List.map_nil, true_imp_iff, false_imp_iff, imp_self, imp_true_iff, not_true_eq_false, not_false_eq_true, List.length_map, Bool.false_eq_true, if_false, Bool.true_eq_false, reduceCtorEq, nos, backs, Sl.keep, decide_true, decide_false, ilist_map, O.lf, List.contains_cons, List.contains_nil, Bool.and_eq_true, beq_self_eq_true, Bool.or_false, Bool.or_true, Bool.true_or, Bool.false_or, and_self, if_pos, gAt_some, ds_fz, Nat.reduceBEq, Nat.reduceEqDiff, ite_self, rangeD_len, numbered_len, Int.toNat_natCast, Nat.reduceAdd, Int.reduceMod, Int.reduceDiv, Int.reduceLT, Int.reduceLE, Int.reduceNeg, Int.reduceMul, Int.reduceAdd, Int.reduceSub, Int.reducePow, Nat.reduceAdd, Nat.reduceLT, Nat.reduceLeDiff, Int.reduceEq, true_or, or_true, Int.reduceToNat, Int.toNat_zero, Int.toNat_one, List.length_set, List.length_append, List.length_singleton, Int.reduceAbs, e1, e2, take_map_succ hz]
    simp [itD]
  · rintro ys Γ ⟨rfl, rfl⟩
    rw [hrl]
    simp only [w_some, w_ofIf, w_ofMap, vAt_fz, w_var, w_C, k1_, w_1, k2b_, k2_, w_2, kA_, w_A, kMb_, kM_, w_M, w_aNil, kaCb_, kaC_, w_aCons, w_oNo, koAt_i, w_oAt, kSlc_, kSlb_, kSl_, w_Sl, ktB_, w_tB, bl_bl, ktT_, w_tTr, ktAnd_, w_tAnd, ktOr_, w_tOr, ktNot_, w_tNot, w_tYes, kIf_, w_If, kAnd_b, kOr_b, w_And, w_Or, ktL_, kbL_, kbF_, lentT_o, lentT_f, lentB_o, lentB_f, w_tBor, w_Bor, flat_int, flat_bl, flat_str, flat_non, kS_nx, kS_bk, kS_ct, kS_rt, w_Seq, kJ_s, w_J, w_Nx, w_Bk, w_Ct, kSet_, w_Set, kAugb_, kAugc_, kAug_, w_Aug, kParb_, kPar_, w_Par, gAt_some, kAsg_, w_Asg, kDrop_, w_Drop, kRet_, w_Ret, w_RetN, kIfS_, w_IfS, kApp_, kApp2_, appAt_, w_App, kPut_, putAt_, kPut2_, kPut3_, w_Put, w_Frz, frz_eq, frz1_ow, frz1_fz, kSetO_, w_SetO, kUp_, w_Up, kO_, w_O, dAt_, kFz_, w_Fz, rAt_ow, kRetO_, w_RetO, fEnd_rt, fEnd_nx, w_Fn, w_noEx, w_arNil, karb_, kar_, w_arCons, kasb_, kas_, w_arSlot, callAt_, kBack_, kCall_, w_Call, pull_nil, pull_fz, pull_sl, pull1_ow, push_nil, push_fz, push_sl, push1_ow, outs_nil, outs_f, outs_o, gN_ap, gTp_ap, gsNil_ap, gsCons_ap, kFor_, w_For, kiR_, w_iR, kiS_l, kiS_t, kiE_l, kiE_t, kiC_s, w_iC, w_iS, w_iE, kRnd_nx, kRnd_ct, kRnd_bk, kRnd_rt, kLcB_, kLcBO_, kLc_, kLcO_, w_Lc, w_LcO, kLcT_, kLcE_, v_add, v_sub, v_mul, v_div, v_mod, v_pow, v_ltA, v_leA, v_gtA, v_geA, v_eqA, v_neA, v_eqAs, v_eqAb, v_plusI, v_max2i, v_min2i, v_one, v_lenL, v_lenT, v_intI, v_tupL, v_tupT, v_lstL, v_lstT, v_sumL, v_sumT, v_maxL, v_minL, u_isN, u_notN, v_isT, v_not, u_neg, v_slL, v_slT, v_ixL, v_ixT, v_r1, v_r2, v_mulW, v_divW, v_gcdI, v_absI, v_sumR, v_foLstT, v_foLstL, v_foLst, v_tupOf, v_lstOf, o_fz, o_ol, o_nil, o_cons, at0, at1, at2, at3, at4, at5, at6, at7, ix_1_0, ix_2_0, ix_2_1, ix_3_0, ix_3_1, ix_3_2, ix_4_0, ix_4_1, ix_4_2, ix_4_3, ix_5_0, ix_5_1, ix_5_2, ix_5_3, ix_5_4, ix_6_0, ix_6_1, ix_6_2, ix_6_3, ix_6_4, ix_6_5, ix_7_0, ix_7_1, ix_7_2, ix_7_3, ix_7_4, ix_7_5, ix_7_6, ix_8_0, ix_8_1, ix_8_2, ix_8_3, ix_8_4, ix_8_5, ix_8_6, ix_8_7, ix_9_0, ix_9_1, ix_9_2, ix_9_3, ix_9_4, ix_9_5, ix_9_6, ix_9_7, ix_9_8, ix_10_0, ix_10_1, ix_10_2, ix_10_3, ix_10_4, ix_10_5, ix_10_6, ix_10_7, ix_10_8, ix_10_9, ix_11_0, ix_11_1, ix_11_2, ix_11_3, ix_11_4, ix_11_5, ix_11_6, ix_11_7, ix_11_8, ix_11_9, ix_11_10, ix_12_0, ix_12_1, ix_12_2, ix_12_3, ix_12_4, ix_12_5, ix_12_6, ix_12_7, ix_12_8, ix_12_9, ix_12_10, ix_12_11, isT_tuple_non, isT_tuple_bl, isT_tuple_int, isT_tuple_str, isT_tuple_tup, isT_tuple_lst, isT_int_non, isT_int_bl, isT_int_int, isT_int_str, isT_int_tup, isT_int_lst, isT_bool_non, isT_bool_bl, isT_bool_int, isT_bool_str, isT_bool_tup, isT_bool_lst, isT_str_non, isT_str_bl, isT_str_int, isT_str_str, isT_str_tup, isT_str_lst, isT_list_non, isT_list_bl, isT_list_int, isT_list_str, isT_list_tup, isT_list_lst, isN_non, isN_bl, isN_int, isN_str, isN_tup, isN_lst, at_ints, sz_iff, big_iff, div_iff, mod_iff, mul_iff, mulW_iff, divW_iff, pow_iff, List.getElem?_cons_succ, List.getElem?_cons_zero, List.set_cons_zero, List.set_cons_succ, List.cons_append, List.nil_append, List.replicate, Option.map_some, Option.bind_some, decide_eq_true_eq, decide_eq_false_iff_not, Option.some.injEq, exists_eq_left', Bool.not_eq_true', Bool.not_eq_false', Bool.not_true, Bool.not_false, Int.not_lt, Int.not_le, true_and, and_true, if_true, List.length_cons, List.length_nil, List.map_cons, List.map_nil, true_imp_iff, false_imp_iff, imp_self, imp_true_iff, not_true_eq_false, not_false_eq_true, List.length_map, Bool.false_eq_true, if_false, Bool.true_eq_false, reduceCtorEq, nos, backs, Sl.keep, decide_true, decide_false, ilist_map, O.lf, List.contains_cons, List.contains_nil, Bool.and_eq_true, beq_self_eq_true, Bool.or_false, Bool.or_true, Bool.true_or, Bool.false_or, and_self, if_pos, gAt_some, ds_fz, Nat.reduceBEq, Nat.reduceEqDiff, ite_self, rangeD_len, numbered_len, Int.toNat_natCast, Nat.reduceAdd, Int.reduceMod, Int.reduceDiv, Int.reduceLT, Int.reduceLE, Int.reduceNeg, Int.reduceMul, Int.reduceAdd, Int.reduceSub, Int.reducePow, Nat.reduceAdd, Nat.reduceLT, Nat.reduceLeDiff, Int.reduceEq, true_or, or_true, Int.reduceToNat, Int.toNat_zero, Int.toNat_one, List.length_set, List.length_append, List.length_singleton, Int.reduceAbs]
    have hz : (ws.zip vs).length = n := by simp; omega
    refine ⟨ws.zip vs, o8, by rw [List.take_of_length_le (by omega)], ⟨?_, fun p hp => hv p.2 (List.of_mem_zip hp).2, by omega⟩, by omega, ho8, rfl⟩
    rw [List.map_fst_zip (by omega)]
    exact hws
theorem fall {ps : List (Str × Int)} (hi : Items ps) : ∃ fs : List (Str × Int), fs.Perm ps ∧ m_x_law_falling [.lst (ps.map itD)] = some (.lst (fs.map itD)) ∧ ∀ x, same2 x (ps.map itD) → m_by_value [x] = some (.lst (fs.map itD)) := by
  obtain ⟨rs, hr, hp⟩ := sort_key (ps.map keyOf)
  have hw : wordsOk (ps.map (·.1)) := fun s hs => ((hi.w.2 s hs).2.2).ok
  have hl := hi.l
  have hlen : rs.length = ps.length := by rw [hp.length_eq, List.length_map]
  refine ⟨rs.map backOf, ?_, falling_ok (by omega) hw hr hlen, fun x hx => by_value_ok hx (by omega) hw hr hlen⟩
  have h2 := hp.map backOf
  rw [List.map_map, show backOf ∘ keyOf = id by funext p; simp [backOf, keyOf], List.map_id] at h2
  exact h2
theorem Items.perm {ps qs : List (Str × Int)} (hi : Items ps) (h : qs.Perm ps) : Items qs := ⟨⟨(h.map (·.1)).nodup_iff.mpr hi.w.1, fun w hw => hi.w.2 w ((h.map (·.1)).mem_iff.mp hw)⟩, fun p hp => hi.v p (h.mem_iff.mp hp), by rw [h.length_eq]; exact hi.l⟩
theorem sum_nn : ∀ {vs : List Int}, (∀ v ∈ vs, 0 ≤ v ∧ v < 100000) → 0 ≤ vs.sum ∧ vs.sum ≤ 100000 * vs.length
  | [], _ => by simp
  | v :: vs, h => by
    have h1 := sum_nn fun w hw => h w (List.mem_cons_of_mem _ hw)
    have h2 := h v (List.mem_cons_self ..)
    simp only [List.sum_cons, List.length_cons]
    omega
theorem Items.vs {ps : List (Str × Int)} (hi : Items ps) : ∀ v ∈ ps.map (·.2), 0 ≤ v ∧ v < 100000 := fun v hv => by
  obtain ⟨p, hp, rfl⟩ := List.mem_map.mp hv
  exact hi.v p hp
theorem Items.pre_le {ps : List (Str × Int)} (hi : Items ps) (k : Nat) : 0 ≤ pre ps k ∧ pre ps k ≤ pre ps ps.length ∧ pre ps ps.length ≤ 60000000 := by
  have h1 : pre ps ps.length = pre ps k + ((ps.drop k).map (·.2)).sum := by
    unfold pre
    rw [← sum_app, ← List.map_append, List.take_append_drop, List.take_length]
  have h2 : 0 ≤ pre ps k := by
    unfold pre
    exact (sum_nn fun v hv => by
      obtain ⟨p, hp, rfl⟩ := List.mem_map.mp hv
      exact hi.v p (List.mem_of_mem_take hp)).1
  have h3 : 0 ≤ ((ps.drop k).map (·.2)).sum := (sum_nn fun v hv => by
      obtain ⟨p, hp, rfl⟩ := List.mem_map.mp hv
      exact hi.v p (List.mem_of_mem_drop hp)).1
  have h4 : pre ps ps.length ≤ 100000 * ps.length := by
    unfold pre
    rw [List.take_length]
    have := (sum_nn hi.vs).2
    rwa [List.length_map] at this
  have := hi.l
  omega
theorem perm_sum {vs ws : List Int} (h : vs.Perm ws) : vs.sum = ws.sum := by
  induction h with
  | nil => rfl
  | cons x _ ih => simp only [List.sum_cons, ih]
  | swap x y l => simp only [List.sum_cons]; omega
  | trans _ _ i1 i2 => exact i1.trans i2
theorem pre_perm {ps qs : List (Str × Int)} (h : qs.Perm ps) : pre qs qs.length = pre ps ps.length := by
  unfold pre
  rw [List.take_length, List.take_length]
  exact perm_sum (h.map (·.2))
theorem sum_lc {fs : List (Str × Int)} {k : Nat} : pre fs k = ((fs.take k).map (·.2)).sum := rfl
theorem percent_ok {o : O} {ps : List (Str × Int)} (ho : FeedOk o) (hi : Items ps) : Okw (m_x_law_percent [.ow (some 0) o, .fz (.lst (ps.map itD))]) (fun r Γ => ∃ p o', r = .fz (.int p) ∧ 0 ≤ p ∧ p ≤ 100 ∧ FeedOk o' ∧ Γ = [.ow (some 0) o', .fz (.lst (ps.map itD))]) := by
  refine ⟨?_⟩
  unfold m_x_law_percent δ_x_law_percent
  simp only [draw_eq]
  simp only [w_some, w_ofIf, w_ofMap, vAt_fz, w_var, w_C, k1_, w_1, k2b_, k2_, w_2, kA_, w_A, kMb_, kM_, w_M, w_aNil, kaCb_, kaC_, w_aCons, w_oNo, koAt_i, w_oAt, kSlc_, kSlb_, kSl_, w_Sl, ktB_, w_tB, bl_bl, ktT_, w_tTr, ktAnd_, w_tAnd, ktOr_, w_tOr, ktNot_, w_tNot, w_tYes, kIf_, w_If, kAnd_b, kOr_b, w_And, w_Or, ktL_, kbL_, kbF_, lentT_o, lentT_f, lentB_o, lentB_f, w_tBor, w_Bor, flat_int, flat_bl, flat_str, flat_non, kS_nx, kS_bk, kS_ct, kS_rt, w_Seq, kJ_s, w_J, w_Nx, w_Bk, w_Ct, kSet_, w_Set, kAugb_, kAugc_, kAug_, w_Aug, kParb_, kPar_, w_Par, gAt_some, kAsg_, w_Asg, kDrop_, w_Drop, kRet_, w_Ret, w_RetN, kIfS_, w_IfS, kApp_, kApp2_, appAt_, w_App, kPut_, putAt_, kPut2_, kPut3_, w_Put, w_Frz, frz_eq, frz1_ow, frz1_fz, kSetO_, w_SetO, kUp_, w_Up, kO_, w_O, dAt_, kFz_, w_Fz, rAt_ow, kRetO_, w_RetO, fEnd_rt, fEnd_nx, w_Fn, w_noEx, w_arNil, karb_, kar_, w_arCons, kasb_, kas_, w_arSlot, callAt_, kBack_, kCall_, w_Call, pull_nil, pull_fz, pull_sl, pull1_ow, push_nil, push_fz, push_sl, push1_ow, outs_nil, outs_f, outs_o, gN_ap, gTp_ap, gsNil_ap, gsCons_ap, kFor_, w_For, kiR_, w_iR, kiS_l, kiS_t, kiE_l, kiE_t, kiC_s, w_iC, w_iS, w_iE, kRnd_nx, kRnd_ct, kRnd_bk, kRnd_rt, kLcB_, kLcBO_, kLc_, kLcO_, w_Lc, w_LcO, kLcT_, kLcE_, v_add, v_sub, v_mul, v_div, v_mod, v_pow, v_ltA, v_leA, v_gtA, v_geA, v_eqA, v_neA, v_eqAs, v_eqAb, v_plusI, v_max2i, v_min2i, v_one, v_lenL, v_lenT, v_intI, v_tupL, v_tupT, v_lstL, v_lstT, v_sumL, v_sumT, v_maxL, v_minL, u_isN, u_notN, v_isT, v_not, u_neg, v_slL, v_slT, v_ixL, v_ixT, v_r1, v_r2, v_mulW, v_divW, v_gcdI, v_absI, v_sumR, v_foLstT, v_foLstL, v_foLst, v_tupOf, v_lstOf, o_fz, o_ol, o_nil, o_cons, at0, at1, at2, at3, at4, at5, at6, at7, ix_1_0, ix_2_0, ix_2_1, ix_3_0, ix_3_1, ix_3_2, ix_4_0, ix_4_1, ix_4_2, ix_4_3, ix_5_0, ix_5_1, ix_5_2, ix_5_3, ix_5_4, ix_6_0, ix_6_1, ix_6_2, ix_6_3, ix_6_4, ix_6_5, ix_7_0, ix_7_1, ix_7_2, ix_7_3, ix_7_4, ix_7_5, ix_7_6, ix_8_0, ix_8_1, ix_8_2, ix_8_3, ix_8_4, ix_8_5, ix_8_6, ix_8_7, ix_9_0, ix_9_1, ix_9_2, ix_9_3, ix_9_4, ix_9_5, ix_9_6, ix_9_7, ix_9_8, ix_10_0, ix_10_1, ix_10_2, ix_10_3, ix_10_4, ix_10_5, ix_10_6, ix_10_7, ix_10_8, ix_10_9, ix_11_0, ix_11_1, ix_11_2, ix_11_3, ix_11_4, ix_11_5, ix_11_6, ix_11_7, ix_11_8, ix_11_9, ix_11_10, ix_12_0, ix_12_1, ix_12_2, ix_12_3, ix_12_4, ix_12_5, ix_12_6, ix_12_7, ix_12_8, ix_12_9, ix_12_10, ix_12_11, isT_tuple_non, isT_tuple_bl, isT_tuple_int, isT_tuple_str, isT_tuple_tup, isT_tuple_lst, isT_int_non, isT_int_bl, isT_int_int, isT_int_str, isT_int_tup, isT_int_lst, isT_bool_non, isT_bool_bl, isT_bool_int, isT_bool_str, isT_bool_tup, isT_bool_lst, isT_str_non, isT_str_bl, isT_str_int, isT_str_str, isT_str_tup, isT_str_lst, isT_list_non, isT_list_bl, isT_list_int, isT_list_str, isT_list_tup, isT_list_lst, isN_non, isN_bl, isN_int, isN_str, isN_tup, isN_lst, at_ints, sz_iff, big_iff, div_iff, mod_iff, mul_iff, mulW_iff, divW_iff, pow_iff, List.getElem?_cons_succ, List.getElem?_cons_zero, List.set_cons_zero, List.set_cons_succ, List.cons_append, List.nil_append, List.replicate, Option.map_some, Option.bind_some, decide_eq_true_eq, decide_eq_false_iff_not, Option.some.injEq, exists_eq_left', Bool.not_eq_true', Bool.not_eq_false', Bool.not_true, Bool.not_false, Int.not_lt, Int.not_le, true_and, and_true, if_true, List.length_cons, List.length_nil, List.map_cons, List.map_nil, true_imp_iff, false_imp_iff, imp_self, imp_true_iff, not_true_eq_false, not_false_eq_true, List.length_map, Bool.false_eq_true, if_false, Bool.true_eq_false, reduceCtorEq, nos, backs, Sl.keep, decide_true, decide_false, ilist_map, O.lf, List.contains_cons, List.contains_nil, Bool.and_eq_true, beq_self_eq_true, Bool.or_false, Bool.or_true, Bool.true_or, Bool.false_or, and_self, if_pos, gAt_some, ds_fz, Nat.reduceBEq, Nat.reduceEqDiff, ite_self, rangeD_len, numbered_len, Int.toNat_natCast, Nat.reduceAdd, Int.reduceMod, Int.reduceDiv, Int.reduceLT, Int.reduceLE, Int.reduceNeg, Int.reduceMul, Int.reduceAdd, Int.reduceSub, Int.reducePow, Nat.reduceAdd, Nat.reduceLT, Nat.reduceLeDiff, Int.reduceEq, true_or, or_true, Int.reduceToNat, Int.toNat_zero, Int.toNat_one, List.length_set, List.length_append, List.length_singleton, Int.reduceAbs]
  have hl := hi.l
  refine draw_wp (by assumption) (by omega) (by omega) fun kind o1 hkind kkind ho1 => ?_; simp only [w_some, w_ofIf, w_ofMap, vAt_fz, w_var, w_C, k1_, w_1, k2b_, k2_, w_2, kA_, w_A, kMb_, kM_, w_M, w_aNil, kaCb_, kaC_, w_aCons, w_oNo, koAt_i, w_oAt, kSlc_, kSlb_, kSl_, w_Sl, ktB_, w_tB, bl_bl, ktT_, w_tTr, ktAnd_, w_tAnd, ktOr_, w_tOr, ktNot_, w_tNot, w_tYes, kIf_, w_If, kAnd_b, kOr_b, w_And, w_Or, ktL_, kbL_, kbF_, lentT_o, lentT_f, lentB_o, lentB_f, w_tBor, w_Bor, flat_int, flat_bl, flat_str, flat_non, kS_nx, kS_bk, kS_ct, kS_rt, w_Seq, kJ_s, w_J, w_Nx, w_Bk, w_Ct, kSet_, w_Set, kAugb_, kAugc_, kAug_, w_Aug, kParb_, kPar_, w_Par, gAt_some, kAsg_, w_Asg, kDrop_, w_Drop, kRet_, w_Ret, w_RetN, kIfS_, w_IfS, kApp_, kApp2_, appAt_, w_App, kPut_, putAt_, kPut2_, kPut3_, w_Put, w_Frz, frz_eq, frz1_ow, frz1_fz, kSetO_, w_SetO, kUp_, w_Up, kO_, w_O, dAt_, kFz_, w_Fz, rAt_ow, kRetO_, w_RetO, fEnd_rt, fEnd_nx, w_Fn, w_noEx, w_arNil, karb_, kar_, w_arCons, kasb_, kas_, w_arSlot, callAt_, kBack_, kCall_, w_Call, pull_nil, pull_fz, pull_sl, pull1_ow, push_nil, push_fz, push_sl, push1_ow, outs_nil, outs_f, outs_o, gN_ap, gTp_ap, gsNil_ap, gsCons_ap, kFor_, w_For, kiR_, w_iR, kiS_l, kiS_t, kiE_l, kiE_t, kiC_s, w_iC, w_iS, w_iE, kRnd_nx, kRnd_ct, kRnd_bk, kRnd_rt, kLcB_, kLcBO_, kLc_, kLcO_, w_Lc, w_LcO, kLcT_, kLcE_, v_add, v_sub, v_mul, v_div, v_mod, v_pow, v_ltA, v_leA, v_gtA, v_geA, v_eqA, v_neA, v_eqAs, v_eqAb, v_plusI, v_max2i, v_min2i, v_one, v_lenL, v_lenT, v_intI, v_tupL, v_tupT, v_lstL, v_lstT, v_sumL, v_sumT, v_maxL, v_minL, u_isN, u_notN, v_isT, v_not, u_neg, v_slL, v_slT, v_ixL, v_ixT, v_r1, v_r2, v_mulW, v_divW, v_gcdI, v_absI, v_sumR, v_foLstT, v_foLstL, v_foLst, v_tupOf, v_lstOf, o_fz, o_ol, o_nil, o_cons, at0, at1, at2, at3, at4, at5, at6, at7, ix_1_0, ix_2_0, ix_2_1, ix_3_0, ix_3_1, ix_3_2, ix_4_0, ix_4_1, ix_4_2, ix_4_3, ix_5_0, ix_5_1, ix_5_2, ix_5_3, ix_5_4, ix_6_0, ix_6_1, ix_6_2, ix_6_3, ix_6_4, ix_6_5, ix_7_0, ix_7_1, ix_7_2, ix_7_3, ix_7_4, ix_7_5, ix_7_6, ix_8_0, ix_8_1, ix_8_2, ix_8_3, ix_8_4, ix_8_5, ix_8_6, ix_8_7, ix_9_0, ix_9_1, ix_9_2, ix_9_3, ix_9_4, ix_9_5, ix_9_6, ix_9_7, ix_9_8, ix_10_0, ix_10_1, ix_10_2, ix_10_3, ix_10_4, ix_10_5, ix_10_6, ix_10_7, ix_10_8, ix_10_9, ix_11_0, ix_11_1, ix_11_2, ix_11_3, ix_11_4, ix_11_5, ix_11_6, ix_11_7, ix_11_8, ix_11_9, ix_11_10, ix_12_0, ix_12_1, ix_12_2, ix_12_3, ix_12_4, ix_12_5, ix_12_6, ix_12_7, ix_12_8, ix_12_9, ix_12_10, ix_12_11, isT_tuple_non, isT_tuple_bl, isT_tuple_int, isT_tuple_str, isT_tuple_tup, isT_tuple_lst, isT_int_non, isT_int_bl, isT_int_int, isT_int_str, isT_int_tup, isT_int_lst, isT_bool_non, isT_bool_bl, isT_bool_int, isT_bool_str, isT_bool_tup, isT_bool_lst, isT_str_non, isT_str_bl, isT_str_int, isT_str_str, isT_str_tup, isT_str_lst, isT_list_non, isT_list_bl, isT_list_int, isT_list_str, isT_list_tup, isT_list_lst, isN_non, isN_bl, isN_int, isN_str, isN_tup, isN_lst, at_ints, sz_iff, big_iff, div_iff, mod_iff, mul_iff, mulW_iff, divW_iff, pow_iff, List.getElem?_cons_succ, List.getElem?_cons_zero, List.set_cons_zero, List.set_cons_succ, List.cons_append, List.nil_append, List.replicate, Option.map_some, Option.bind_some, decide_eq_true_eq, decide_eq_false_iff_not, Option.some.injEq, exists_eq_left', Bool.not_eq_true', Bool.not_eq_false', Bool.not_true, Bool.not_false, Int.not_lt, Int.not_le, true_and, and_true, if_true, List.length_cons, List.length_nil, List.map_cons, List.map_nil, true_imp_iff, false_imp_iff, imp_self, imp_true_iff, not_true_eq_false, not_false_eq_true, List.length_map, Bool.false_eq_true, if_false, Bool.true_eq_false, reduceCtorEq, nos, backs, Sl.keep, decide_true, decide_false, ilist_map, O.lf, List.contains_cons, List.contains_nil, Bool.and_eq_true, beq_self_eq_true, Bool.or_false, Bool.or_true, Bool.true_or, Bool.false_or, and_self, if_pos, gAt_some, ds_fz, Nat.reduceBEq, Nat.reduceEqDiff, ite_self, rangeD_len, numbered_len, Int.toNat_natCast, Nat.reduceAdd, Int.reduceMod, Int.reduceDiv, Int.reduceLT, Int.reduceLE, Int.reduceNeg, Int.reduceMul, Int.reduceAdd, Int.reduceSub, Int.reducePow, Nat.reduceAdd, Nat.reduceLT, Nat.reduceLeDiff, Int.reduceEq, true_or, or_true, Int.reduceToNat, Int.toNat_zero, Int.toNat_one, List.length_set, List.length_append, List.length_singleton, Int.reduceAbs]
  refine ⟨by omega, ?_⟩
  refine w_lcK (fun k ys Γ => ys = ((ps.take k).map (·.2)).map D.int ∧ Γ = [.ow (some 0) o1, Sl.fz (.lst (ps.map itD)), .fz (.int kind), .no, .no, .no, .no, .no]) ⟨rfl, rfl⟩ ?_ ?_
  · rintro k d ys Γ hd ⟨rfl, rfl⟩
    have hk : k < ps.length := by simpa using (List.getElem?_eq_some_iff.mp hd).1
    rw [List.getElem?_map, List.getElem?_eq_getElem hk] at hd
    cases hd
    simp only [w_some, w_ofIf, w_ofMap, vAt_fz, w_var, w_C, k1_, w_1, k2b_, k2_, w_2, kA_, w_A, kMb_, kM_, w_M, w_aNil, kaCb_, kaC_, w_aCons, w_oNo, koAt_i, w_oAt, kSlc_, kSlb_, kSl_, w_Sl, ktB_, w_tB, bl_bl, ktT_, w_tTr, ktAnd_, w_tAnd, ktOr_, w_tOr, ktNot_, w_tNot, w_tYes, kIf_, w_If, kAnd_b, kOr_b, w_And, w_Or, ktL_, kbL_, kbF_, lentT_o, lentT_f, lentB_o, lentB_f, w_tBor, w_Bor, flat_int, flat_bl, flat_str, flat_non, kS_nx, kS_bk, kS_ct, kS_rt, w_Seq, kJ_s, w_J, w_Nx, w_Bk, w_Ct, kSet_, w_Set, kAugb_, kAugc_, kAug_, w_Aug, kParb_, kPar_, w_Par, gAt_some, kAsg_, w_Asg, kDrop_, w_Drop, kRet_, w_Ret, w_RetN, kIfS_, w_IfS, kApp_, kApp2_, appAt_, w_App, kPut_, putAt_, kPut2_, kPut3_, w_Put, w_Frz, frz_eq, frz1_ow, frz1_fz, kSetO_, w_SetO, kUp_, w_Up, kO_, w_O, dAt_, kFz_, w_Fz, rAt_ow, kRetO_, w_RetO, fEnd_rt, fEnd_nx, w_Fn, w_noEx, w_arNil, karb_, kar_, w_arCons, kasb_, kas_, w_arSlot, callAt_, kBack_, kCall_, w_Call, pull_nil, pull_fz, pull_sl, pull1_ow, push_nil, push_fz, push_sl, push1_ow, outs_nil, outs_f, outs_o, gN_ap, gTp_ap, gsNil_ap, gsCons_ap, kFor_, w_For, kiR_, w_iR, kiS_l, kiS_t, kiE_l, kiE_t, kiC_s, w_iC, w_iS, w_iE, kRnd_nx, kRnd_ct, kRnd_bk, kRnd_rt, kLcB_, kLcBO_, kLc_, kLcO_, w_Lc, w_LcO, kLcT_, kLcE_, v_add, v_sub, v_mul, v_div, v_mod, v_pow, v_ltA, v_leA, v_gtA, v_geA, v_eqA, v_neA, v_eqAs, v_eqAb, v_plusI, v_max2i, v_min2i, v_one, v_lenL, v_lenT, v_intI, v_tupL, v_tupT, v_lstL, v_lstT, v_sumL, v_sumT, v_maxL, v_minL, u_isN, u_notN, v_isT, v_not, u_neg, v_slL, v_slT, v_ixL, v_ixT, v_r1, v_r2, v_mulW, v_divW, v_gcdI, v_absI, v_sumR, v_foLstT, v_foLstL, v_foLst, v_tupOf, v_lstOf, o_fz, o_ol, o_nil, o_cons, at0, at1, at2, at3, at4, at5, at6, at7, ix_1_0, ix_2_0, ix_2_1, ix_3_0, ix_3_1, ix_3_2, ix_4_0, ix_4_1, ix_4_2, ix_4_3, ix_5_0, ix_5_1, ix_5_2, ix_5_3, ix_5_4, ix_6_0, ix_6_1, ix_6_2, ix_6_3, ix_6_4, ix_6_5, ix_7_0, ix_7_1, ix_7_2, ix_7_3, ix_7_4, ix_7_5, ix_7_6, ix_8_0, ix_8_1, ix_8_2, ix_8_3, ix_8_4, ix_8_5, ix_8_6, ix_8_7, ix_9_0, ix_9_1, ix_9_2, ix_9_3, ix_9_4, ix_9_5, ix_9_6, ix_9_7, ix_9_8, ix_10_0, ix_10_1, ix_10_2, ix_10_3, ix_10_4, ix_10_5, ix_10_6, ix_10_7, ix_10_8, ix_10_9, ix_11_0, ix_11_1, ix_11_2, ix_11_3, ix_11_4, ix_11_5, ix_11_6, ix_11_7, ix_11_8, ix_11_9, ix_11_10, ix_12_0, ix_12_1, ix_12_2, ix_12_3, ix_12_4, ix_12_5, ix_12_6, ix_12_7, ix_12_8, ix_12_9, ix_12_10, ix_12_11, isT_tuple_non, isT_tuple_bl, isT_tuple_int, isT_tuple_str, isT_tuple_tup, isT_tuple_lst, isT_int_non, isT_int_bl, isT_int_int, isT_int_str, isT_int_tup, isT_int_lst, isT_bool_non, isT_bool_bl, isT_bool_int, isT_bool_str, isT_bool_tup, isT_bool_lst, isT_str_non, isT_str_bl, isT_str_int, isT_str_str, isT_str_tup, isT_str_lst, isT_list_non, isT_list_bl, isT_list_int, isT_list_str, isT_list_tup, isT_list_lst, isN_non, isN_bl, isN_int, isN_str, isN_tup, isN_lst, at_ints, sz_iff, big_iff, div_iff, mod_iff, mul_iff, mulW_iff, divW_iff, pow_iff, List.getElem?_cons_succ, List.getElem?_cons_zero, List.set_cons_zero, List.set_cons_succ, List.cons_append, List.nil_append, List.replicate, Option.map_some, Option.bind_some, decide_eq_true_eq, decide_eq_false_iff_not, Option.some.injEq, exists_eq_left', Bool.not_eq_true', Bool.not_eq_false', Bool.not_true, Bool.not_false, Int.not_lt, Int.not_le, true_and, and_true, if_true, List.length_cons, List.length_nil, List.map_cons, List.map_nil, true_imp_iff, false_imp_iff, imp_self, imp_true_iff, not_true_eq_false, not_false_eq_true, List.length_map, Bool.false_eq_true, if_false, Bool.true_eq_false, reduceCtorEq, nos, backs, Sl.keep, decide_true, decide_false, ilist_map, O.lf, List.contains_cons, List.contains_nil, Bool.and_eq_true, beq_self_eq_true, Bool.or_false, Bool.or_true, Bool.true_or, Bool.false_or, and_self, if_pos, gAt_some, ds_fz, Nat.reduceBEq, Nat.reduceEqDiff, ite_self, rangeD_len, numbered_len, Int.toNat_natCast, Nat.reduceAdd, Int.reduceMod, Int.reduceDiv, Int.reduceLT, Int.reduceLE, Int.reduceNeg, Int.reduceMul, Int.reduceAdd, Int.reduceSub, Int.reducePow, Nat.reduceAdd, Nat.reduceLT, Nat.reduceLeDiff, Int.reduceEq, true_or, or_true, Int.reduceToNat, Int.toNat_zero, Int.toNat_one, List.length_set, List.length_append, List.length_singleton, Int.reduceAbs, itD, take_map_succ hk, List.map_append]
  rintro ys Γ ⟨rfl, rfl⟩
  rw [List.length_map]
  have eT : ((ps.take ps.length).map (·.2)).sum = pre ps ps.length := rfl
  simp only [w_some, w_ofIf, w_ofMap, vAt_fz, w_var, w_C, k1_, w_1, k2b_, k2_, w_2, kA_, w_A, kMb_, kM_, w_M, w_aNil, kaCb_, kaC_, w_aCons, w_oNo, koAt_i, w_oAt, kSlc_, kSlb_, kSl_, w_Sl, ktB_, w_tB, bl_bl, ktT_, w_tTr, ktAnd_, w_tAnd, ktOr_, w_tOr, ktNot_, w_tNot, w_tYes, kIf_, w_If, kAnd_b, kOr_b, w_And, w_Or, ktL_, kbL_, kbF_, lentT_o, lentT_f, lentB_o, lentB_f, w_tBor, w_Bor, flat_int, flat_bl, flat_str, flat_non, kS_nx, kS_bk, kS_ct, kS_rt, w_Seq, kJ_s, w_J, w_Nx, w_Bk, w_Ct, kSet_, w_Set, kAugb_, kAugc_, kAug_, w_Aug, kParb_, kPar_, w_Par, gAt_some, kAsg_, w_Asg, kDrop_, w_Drop, kRet_, w_Ret, w_RetN, kIfS_, kApp_, kApp2_, appAt_, w_App, kPut_, putAt_, kPut2_, kPut3_, w_Put, w_Frz, frz_eq, frz1_ow, frz1_fz, kSetO_, w_SetO, kUp_, w_Up, kO_, w_O, dAt_, kFz_, w_Fz, rAt_ow, kRetO_, w_RetO, fEnd_rt, fEnd_nx, w_Fn, w_noEx, w_arNil, karb_, kar_, w_arCons, kasb_, kas_, w_arSlot, callAt_, kBack_, kCall_, w_Call, pull_nil, pull_fz, pull_sl, pull1_ow, push_nil, push_fz, push_sl, push1_ow, outs_nil, outs_f, outs_o, gN_ap, gTp_ap, gsNil_ap, gsCons_ap, kFor_, w_For, kiR_, w_iR, kiS_l, kiS_t, kiE_l, kiE_t, kiC_s, w_iC, w_iS, w_iE, kRnd_nx, kRnd_ct, kRnd_bk, kRnd_rt, kLcB_, kLcBO_, kLc_, kLcO_, w_Lc, w_LcO, kLcT_, kLcE_, v_add, v_sub, v_mul, v_div, v_mod, v_pow, v_ltA, v_leA, v_gtA, v_geA, v_eqA, v_neA, v_eqAs, v_eqAb, v_plusI, v_max2i, v_min2i, v_one, v_lenL, v_lenT, v_intI, v_tupL, v_tupT, v_lstL, v_lstT, v_sumL, v_sumT, v_maxL, v_minL, u_isN, u_notN, v_isT, v_not, u_neg, v_slL, v_slT, v_ixL, v_ixT, v_r1, v_r2, v_mulW, v_divW, v_gcdI, v_absI, v_sumR, v_foLstT, v_foLstL, v_foLst, v_tupOf, v_lstOf, o_fz, o_ol, o_nil, o_cons, at0, at1, at2, at3, at4, at5, at6, at7, ix_1_0, ix_2_0, ix_2_1, ix_3_0, ix_3_1, ix_3_2, ix_4_0, ix_4_1, ix_4_2, ix_4_3, ix_5_0, ix_5_1, ix_5_2, ix_5_3, ix_5_4, ix_6_0, ix_6_1, ix_6_2, ix_6_3, ix_6_4, ix_6_5, ix_7_0, ix_7_1, ix_7_2, ix_7_3, ix_7_4, ix_7_5, ix_7_6, ix_8_0, ix_8_1, ix_8_2, ix_8_3, ix_8_4, ix_8_5, ix_8_6, ix_8_7, ix_9_0, ix_9_1, ix_9_2, ix_9_3, ix_9_4, ix_9_5, ix_9_6, ix_9_7, ix_9_8, ix_10_0, ix_10_1, ix_10_2, ix_10_3, ix_10_4, ix_10_5, ix_10_6, ix_10_7, ix_10_8, ix_10_9, ix_11_0, ix_11_1, ix_11_2, ix_11_3, ix_11_4, ix_11_5, ix_11_6, ix_11_7, ix_11_8, ix_11_9, ix_11_10, ix_12_0, ix_12_1, ix_12_2, ix_12_3, ix_12_4, ix_12_5, ix_12_6, ix_12_7, ix_12_8, ix_12_9, ix_12_10, ix_12_11, isT_tuple_non, isT_tuple_bl, isT_tuple_int, isT_tuple_str, isT_tuple_tup, isT_tuple_lst, isT_int_non, isT_int_bl, isT_int_int, isT_int_str, isT_int_tup, isT_int_lst, isT_bool_non, isT_bool_bl, isT_bool_int, isT_bool_str, isT_bool_tup, isT_bool_lst, isT_str_non, isT_str_bl, isT_str_int, isT_str_str, isT_str_tup, isT_str_lst, isT_list_non, isT_list_bl, isT_list_int, isT_list_str, isT_list_tup, isT_list_lst, isN_non, isN_bl, isN_int, isN_str, isN_tup, isN_lst, at_ints, sz_iff, big_iff, div_iff, mod_iff, mul_iff, mulW_iff, divW_iff, pow_iff, List.getElem?_cons_succ, List.getElem?_cons_zero, List.set_cons_zero, List.set_cons_succ, List.cons_append, List.nil_append, List.replicate, Option.map_some, Option.bind_some, decide_eq_true_eq, decide_eq_false_iff_not, Option.some.injEq, exists_eq_left', Bool.not_eq_true', Bool.not_eq_false', Bool.not_true, Bool.not_false, Int.not_lt, Int.not_le, true_and, and_true, if_true, List.length_cons, List.length_nil, List.map_cons, List.map_nil, true_imp_iff, false_imp_iff, imp_self, imp_true_iff, not_true_eq_false, not_false_eq_true, List.length_map, Bool.false_eq_true, if_false, Bool.true_eq_false, reduceCtorEq, nos, backs, Sl.keep, decide_true, decide_false, ilist_map, O.lf, List.contains_cons, List.contains_nil, Bool.and_eq_true, beq_self_eq_true, Bool.or_false, Bool.or_true, Bool.true_or, Bool.false_or, and_self, if_pos, gAt_some, ds_fz, Nat.reduceBEq, Nat.reduceEqDiff, ite_self, rangeD_len, numbered_len, Int.toNat_natCast, Nat.reduceAdd, Int.reduceMod, Int.reduceDiv, Int.reduceLT, Int.reduceLE, Int.reduceNeg, Int.reduceMul, Int.reduceAdd, Int.reduceSub, Int.reducePow, Nat.reduceAdd, Nat.reduceLT, Nat.reduceLeDiff, Int.reduceEq, true_or, or_true, Int.reduceToNat, Int.toNat_zero, Int.toNat_one, List.length_set, List.length_append, List.length_singleton, Int.reduceAbs, eT]
  refine w_mono (P := fun f Γ => (f = .nx ∧ ∃ o', FeedOk o' ∧ Γ = [.ow (some 0) o', Sl.fz (.lst (ps.map itD)), .fz (.int kind), .fz (.int (pre ps ps.length)), .no, .no, .no, .no]) ∨ ∃ p o' s4 s5, f = .rt (.fz (.int p)) ∧ 0 ≤ p ∧ p ≤ 100 ∧ FeedOk o' ∧ Γ = [.ow (some 0) o', Sl.fz (.lst (ps.map itD)), .fz (.int kind), .fz (.int (pre ps ps.length)), s4, s5, .no, .no]) ?_ ?_
  · simp only [w_some, w_ofIf, w_ofMap, vAt_fz, w_var, w_C, k1_, w_1, k2b_, k2_, w_2, kA_, w_A, kMb_, kM_, w_M, w_aNil, kaCb_, kaC_, w_aCons, w_oNo, koAt_i, w_oAt, kSlc_, kSlb_, kSl_, w_Sl, ktB_, w_tB, bl_bl, ktT_, w_tTr, ktAnd_, w_tAnd, ktOr_, w_tOr, ktNot_, w_tNot, w_tYes, kIf_, w_If, kAnd_b, kOr_b, w_And, w_Or, ktL_, kbL_, kbF_, lentT_o, lentT_f, lentB_o, lentB_f, w_tBor, w_Bor, flat_int, flat_bl, flat_str, flat_non, kS_nx, kS_bk, kS_ct, kS_rt, w_Seq, kJ_s, w_J, w_Nx, w_Bk, w_Ct, kSet_, w_Set, kAugb_, kAugc_, kAug_, w_Aug, kParb_, kPar_, w_Par, gAt_some, kAsg_, w_Asg, kDrop_, w_Drop, kRet_, w_Ret, w_RetN, kIfS_, w_IfS, kApp_, kApp2_, appAt_, w_App, kPut_, putAt_, kPut2_, kPut3_, w_Put, w_Frz, frz_eq, frz1_ow, frz1_fz, kSetO_, w_SetO, kUp_, w_Up, kO_, w_O, dAt_, kFz_, w_Fz, rAt_ow, kRetO_, w_RetO, fEnd_rt, fEnd_nx, w_Fn, w_noEx, w_arNil, karb_, kar_, w_arCons, kasb_, kas_, w_arSlot, callAt_, kBack_, kCall_, w_Call, pull_nil, pull_fz, pull_sl, pull1_ow, push_nil, push_fz, push_sl, push1_ow, outs_nil, outs_f, outs_o, gN_ap, gTp_ap, gsNil_ap, gsCons_ap, kFor_, w_For, kiR_, w_iR, kiS_l, kiS_t, kiE_l, kiE_t, kiC_s, w_iC, w_iS, w_iE, kRnd_nx, kRnd_ct, kRnd_bk, kRnd_rt, kLcB_, kLcBO_, kLc_, kLcO_, w_Lc, w_LcO, kLcT_, kLcE_, v_add, v_sub, v_mul, v_div, v_mod, v_pow, v_ltA, v_leA, v_gtA, v_geA, v_eqA, v_neA, v_eqAs, v_eqAb, v_plusI, v_max2i, v_min2i, v_one, v_lenL, v_lenT, v_intI, v_tupL, v_tupT, v_lstL, v_lstT, v_sumL, v_sumT, v_maxL, v_minL, u_isN, u_notN, v_isT, v_not, u_neg, v_slL, v_slT, v_ixL, v_ixT, v_r1, v_r2, v_mulW, v_divW, v_gcdI, v_absI, v_sumR, v_foLstT, v_foLstL, v_foLst, v_tupOf, v_lstOf, o_fz, o_ol, o_nil, o_cons, at0, at1, at2, at3, at4, at5, at6, at7, ix_1_0, ix_2_0, ix_2_1, ix_3_0, ix_3_1, ix_3_2, ix_4_0, ix_4_1, ix_4_2, ix_4_3, ix_5_0, ix_5_1, ix_5_2, ix_5_3, ix_5_4, ix_6_0, ix_6_1, ix_6_2, ix_6_3, ix_6_4, ix_6_5, ix_7_0, ix_7_1, ix_7_2, ix_7_3, ix_7_4, ix_7_5, ix_7_6, ix_8_0, ix_8_1, ix_8_2, ix_8_3, ix_8_4, ix_8_5, ix_8_6, ix_8_7, ix_9_0, ix_9_1, ix_9_2, ix_9_3, ix_9_4, ix_9_5, ix_9_6, ix_9_7, ix_9_8, ix_10_0, ix_10_1, ix_10_2, ix_10_3, ix_10_4, ix_10_5, ix_10_6, ix_10_7, ix_10_8, ix_10_9, ix_11_0, ix_11_1, ix_11_2, ix_11_3, ix_11_4, ix_11_5, ix_11_6, ix_11_7, ix_11_8, ix_11_9, ix_11_10, ix_12_0, ix_12_1, ix_12_2, ix_12_3, ix_12_4, ix_12_5, ix_12_6, ix_12_7, ix_12_8, ix_12_9, ix_12_10, ix_12_11, isT_tuple_non, isT_tuple_bl, isT_tuple_int, isT_tuple_str, isT_tuple_tup, isT_tuple_lst, isT_int_non, isT_int_bl, isT_int_int, isT_int_str, isT_int_tup, isT_int_lst, isT_bool_non, isT_bool_bl, isT_bool_int, isT_bool_str, isT_bool_tup, isT_bool_lst, isT_str_non, isT_str_bl, isT_str_int, isT_str_str, isT_str_tup, isT_str_lst, isT_list_non, isT_list_bl, isT_list_int, isT_list_str, isT_list_tup, isT_list_lst, isN_non, isN_bl, isN_int, isN_str, isN_tup, isN_lst, at_ints, sz_iff, big_iff, div_iff, mod_iff, mul_iff, mulW_iff, divW_iff, pow_iff, List.getElem?_cons_succ, List.getElem?_cons_zero, List.set_cons_zero, List.set_cons_succ, List.cons_append, List.nil_append, List.replicate, Option.map_some, Option.bind_some, decide_eq_true_eq, decide_eq_false_iff_not, Option.some.injEq, exists_eq_left', Bool.not_eq_true', Bool.not_eq_false', Bool.not_true, Bool.not_false, Int.not_lt, Int.not_le, true_and, and_true, if_true, List.length_cons, List.length_nil, List.map_cons, List.map_nil, true_imp_iff, false_imp_iff, imp_self, imp_true_iff, not_true_eq_false, not_false_eq_true, List.length_map, Bool.false_eq_true, if_false, Bool.true_eq_false, reduceCtorEq, nos, backs, Sl.keep, decide_true, decide_false, ilist_map, O.lf, List.contains_cons, List.contains_nil, Bool.and_eq_true, beq_self_eq_true, Bool.or_false, Bool.or_true, Bool.true_or, Bool.false_or, and_self, if_pos, gAt_some, ds_fz, Nat.reduceBEq, Nat.reduceEqDiff, ite_self, rangeD_len, numbered_len, Int.toNat_natCast, Nat.reduceAdd, Int.reduceMod, Int.reduceDiv, Int.reduceLT, Int.reduceLE, Int.reduceNeg, Int.reduceMul, Int.reduceAdd, Int.reduceSub, Int.reducePow, Nat.reduceAdd, Nat.reduceLT, Nat.reduceLeDiff, Int.reduceEq, true_or, or_true, Int.reduceToNat, Int.toNat_zero, Int.toNat_one, List.length_set, List.length_append, List.length_singleton, Int.reduceAbs]
    refine ⟨fun h1 => ⟨fun h2 => ?_, fun h2 => .inl ⟨o1, ho1, rfl⟩⟩, fun h1 => .inl ⟨o1, ho1, rfl⟩⟩
    obtain ⟨fs, hp, e1, _⟩ := fall hi
    have hlf : fs.length = ps.length := hp.length_eq
    have hpos : 0 < ps.length := by
      rcases Nat.eq_zero_or_pos ps.length with q | q
      · have : ps = [] := List.length_eq_zero_iff.mp q
        subst this
        exact absurd h2 (by decide)
      · exact q
    simp only [w_some, w_ofIf, w_ofMap, vAt_fz, w_var, w_C, k1_, w_1, k2b_, k2_, w_2, kA_, w_A, kMb_, kM_, w_M, w_aNil, kaCb_, kaC_, w_aCons, w_oNo, koAt_i, w_oAt, kSlc_, kSlb_, kSl_, w_Sl, ktB_, w_tB, bl_bl, ktT_, w_tTr, ktAnd_, w_tAnd, ktOr_, w_tOr, ktNot_, w_tNot, w_tYes, kIf_, w_If, kAnd_b, kOr_b, w_And, w_Or, ktL_, kbL_, kbF_, lentT_o, lentT_f, lentB_o, lentB_f, w_tBor, w_Bor, flat_int, flat_bl, flat_str, flat_non, kS_nx, kS_bk, kS_ct, kS_rt, w_Seq, kJ_s, w_J, w_Nx, w_Bk, w_Ct, kSet_, w_Set, kAugb_, kAugc_, kAug_, w_Aug, kParb_, kPar_, w_Par, gAt_some, kAsg_, w_Asg, kDrop_, w_Drop, kRet_, w_Ret, w_RetN, kIfS_, w_IfS, kApp_, kApp2_, appAt_, w_App, kPut_, putAt_, kPut2_, kPut3_, w_Put, w_Frz, frz_eq, frz1_ow, frz1_fz, kSetO_, w_SetO, kUp_, w_Up, kO_, w_O, dAt_, kFz_, w_Fz, rAt_ow, kRetO_, w_RetO, fEnd_rt, fEnd_nx, w_Fn, w_noEx, w_arNil, karb_, kar_, w_arCons, kasb_, kas_, w_arSlot, callAt_, kBack_, kCall_, w_Call, pull_nil, pull_fz, pull_sl, pull1_ow, push_nil, push_fz, push_sl, push1_ow, outs_nil, outs_f, outs_o, gN_ap, gTp_ap, gsNil_ap, gsCons_ap, kFor_, w_For, kiR_, w_iR, kiS_l, kiS_t, kiE_l, kiE_t, kiC_s, w_iC, w_iS, w_iE, kRnd_nx, kRnd_ct, kRnd_bk, kRnd_rt, kLcB_, kLcBO_, kLc_, kLcO_, w_Lc, w_LcO, kLcT_, kLcE_, v_add, v_sub, v_mul, v_div, v_mod, v_pow, v_ltA, v_leA, v_gtA, v_geA, v_eqA, v_neA, v_eqAs, v_eqAb, v_plusI, v_max2i, v_min2i, v_one, v_lenL, v_lenT, v_intI, v_tupL, v_tupT, v_lstL, v_lstT, v_sumL, v_sumT, v_maxL, v_minL, u_isN, u_notN, v_isT, v_not, u_neg, v_slL, v_slT, v_ixL, v_ixT, v_r1, v_r2, v_mulW, v_divW, v_gcdI, v_absI, v_sumR, v_foLstT, v_foLstL, v_foLst, v_tupOf, v_lstOf, o_fz, o_ol, o_nil, o_cons, at0, at1, at2, at3, at4, at5, at6, at7, ix_1_0, ix_2_0, ix_2_1, ix_3_0, ix_3_1, ix_3_2, ix_4_0, ix_4_1, ix_4_2, ix_4_3, ix_5_0, ix_5_1, ix_5_2, ix_5_3, ix_5_4, ix_6_0, ix_6_1, ix_6_2, ix_6_3, ix_6_4, ix_6_5, ix_7_0, ix_7_1, ix_7_2, ix_7_3, ix_7_4, ix_7_5, ix_7_6, ix_8_0, ix_8_1, ix_8_2, ix_8_3, ix_8_4, ix_8_5, ix_8_6, ix_8_7, ix_9_0, ix_9_1, ix_9_2, ix_9_3, ix_9_4, ix_9_5, ix_9_6, ix_9_7, ix_9_8, ix_10_0, ix_10_1, ix_10_2, ix_10_3, ix_10_4, ix_10_5, ix_10_6, ix_10_7, ix_10_8, ix_10_9, ix_11_0, ix_11_1, ix_11_2, ix_11_3, ix_11_4, ix_11_5, ix_11_6, ix_11_7, ix_11_8, ix_11_9, ix_11_10, ix_12_0, ix_12_1, ix_12_2, ix_12_3, ix_12_4, ix_12_5, ix_12_6, ix_12_7, ix_12_8, ix_12_9, ix_12_10, ix_12_11, isT_tuple_non, isT_tuple_bl, isT_tuple_int, isT_tuple_str, isT_tuple_tup, isT_tuple_lst, isT_int_non, isT_int_bl, isT_int_int, isT_int_str, isT_int_tup, isT_int_lst, isT_bool_non, isT_bool_bl, isT_bool_int, isT_bool_str, isT_bool_tup, isT_bool_lst, isT_str_non, isT_str_bl, isT_str_int, isT_str_str, isT_str_tup, isT_str_lst, isT_list_non, isT_list_bl, isT_list_int, isT_list_str, isT_list_tup, isT_list_lst, isN_non, isN_bl, isN_int, isN_str, isN_tup, isN_lst, at_ints, sz_iff, big_iff, div_iff, mod_iff, mul_iff, mulW_iff, divW_iff, pow_iff, List.getElem?_cons_succ, List.getElem?_cons_zero, List.set_cons_zero, List.set_cons_succ, List.cons_append, List.nil_append, List.replicate, Option.map_some, Option.bind_some, decide_eq_true_eq, decide_eq_false_iff_not, Option.some.injEq, exists_eq_left', Bool.not_eq_true', Bool.not_eq_false', Bool.not_true, Bool.not_false, Int.not_lt, Int.not_le, true_and, and_true, if_true, List.length_cons, List.length_nil, List.map_cons, List.map_nil, true_imp_iff, false_imp_iff, imp_self, imp_true_iff, not_true_eq_false, not_false_eq_true, List.length_map, Bool.false_eq_true, if_false, Bool.true_eq_false, reduceCtorEq, nos, backs, Sl.keep, decide_true, decide_false, ilist_map, O.lf, List.contains_cons, List.contains_nil, Bool.and_eq_true, beq_self_eq_true, Bool.or_false, Bool.or_true, Bool.true_or, Bool.false_or, and_self, if_pos, gAt_some, ds_fz, Nat.reduceBEq, Nat.reduceEqDiff, ite_self, rangeD_len, numbered_len, Int.toNat_natCast, Nat.reduceAdd, Int.reduceMod, Int.reduceDiv, Int.reduceLT, Int.reduceLE, Int.reduceNeg, Int.reduceMul, Int.reduceAdd, Int.reduceSub, Int.reducePow, Nat.reduceAdd, Nat.reduceLT, Nat.reduceLeDiff, Int.reduceEq, true_or, or_true, Int.reduceToNat, Int.toNat_zero, Int.toNat_one, List.length_set, List.length_append, List.length_singleton, Int.reduceAbs, e1]
    refine draw_wp (by assumption) (by omega) (by omega) fun x2 o2 hx2 kx2 ho2 => ?_; simp only [w_some, w_ofIf, w_ofMap, vAt_fz, w_var, w_C, k1_, w_1, k2b_, k2_, w_2, kA_, w_A, kMb_, kM_, w_M, w_aNil, kaCb_, kaC_, w_aCons, w_oNo, koAt_i, w_oAt, kSlc_, kSlb_, kSl_, w_Sl, ktB_, w_tB, bl_bl, ktT_, w_tTr, ktAnd_, w_tAnd, ktOr_, w_tOr, ktNot_, w_tNot, w_tYes, kIf_, w_If, kAnd_b, kOr_b, w_And, w_Or, ktL_, kbL_, kbF_, lentT_o, lentT_f, lentB_o, lentB_f, w_tBor, w_Bor, flat_int, flat_bl, flat_str, flat_non, kS_nx, kS_bk, kS_ct, kS_rt, w_Seq, kJ_s, w_J, w_Nx, w_Bk, w_Ct, kSet_, w_Set, kAugb_, kAugc_, kAug_, w_Aug, kParb_, kPar_, w_Par, gAt_some, kAsg_, w_Asg, kDrop_, w_Drop, kRet_, w_Ret, w_RetN, kIfS_, w_IfS, kApp_, kApp2_, appAt_, w_App, kPut_, putAt_, kPut2_, kPut3_, w_Put, w_Frz, frz_eq, frz1_ow, frz1_fz, kSetO_, w_SetO, kUp_, w_Up, kO_, w_O, dAt_, kFz_, w_Fz, rAt_ow, kRetO_, w_RetO, fEnd_rt, fEnd_nx, w_Fn, w_noEx, w_arNil, karb_, kar_, w_arCons, kasb_, kas_, w_arSlot, callAt_, kBack_, kCall_, w_Call, pull_nil, pull_fz, pull_sl, pull1_ow, push_nil, push_fz, push_sl, push1_ow, outs_nil, outs_f, outs_o, gN_ap, gTp_ap, gsNil_ap, gsCons_ap, kFor_, w_For, kiR_, w_iR, kiS_l, kiS_t, kiE_l, kiE_t, kiC_s, w_iC, w_iS, w_iE, kRnd_nx, kRnd_ct, kRnd_bk, kRnd_rt, kLcB_, kLcBO_, kLc_, kLcO_, w_Lc, w_LcO, kLcT_, kLcE_, v_add, v_sub, v_mul, v_div, v_mod, v_pow, v_ltA, v_leA, v_gtA, v_geA, v_eqA, v_neA, v_eqAs, v_eqAb, v_plusI, v_max2i, v_min2i, v_one, v_lenL, v_lenT, v_intI, v_tupL, v_tupT, v_lstL, v_lstT, v_sumL, v_sumT, v_maxL, v_minL, u_isN, u_notN, v_isT, v_not, u_neg, v_slL, v_slT, v_ixL, v_ixT, v_r1, v_r2, v_mulW, v_divW, v_gcdI, v_absI, v_sumR, v_foLstT, v_foLstL, v_foLst, v_tupOf, v_lstOf, o_fz, o_ol, o_nil, o_cons, at0, at1, at2, at3, at4, at5, at6, at7, ix_1_0, ix_2_0, ix_2_1, ix_3_0, ix_3_1, ix_3_2, ix_4_0, ix_4_1, ix_4_2, ix_4_3, ix_5_0, ix_5_1, ix_5_2, ix_5_3, ix_5_4, ix_6_0, ix_6_1, ix_6_2, ix_6_3, ix_6_4, ix_6_5, ix_7_0, ix_7_1, ix_7_2, ix_7_3, ix_7_4, ix_7_5, ix_7_6, ix_8_0, ix_8_1, ix_8_2, ix_8_3, ix_8_4, ix_8_5, ix_8_6, ix_8_7, ix_9_0, ix_9_1, ix_9_2, ix_9_3, ix_9_4, ix_9_5, ix_9_6, ix_9_7, ix_9_8, ix_10_0, ix_10_1, ix_10_2, ix_10_3, ix_10_4, ix_10_5, ix_10_6, ix_10_7, ix_10_8, ix_10_9, ix_11_0, ix_11_1, ix_11_2, ix_11_3, ix_11_4, ix_11_5, ix_11_6, ix_11_7, ix_11_8, ix_11_9, ix_11_10, ix_12_0, ix_12_1, ix_12_2, ix_12_3, ix_12_4, ix_12_5, ix_12_6, ix_12_7, ix_12_8, ix_12_9, ix_12_10, ix_12_11, isT_tuple_non, isT_tuple_bl, isT_tuple_int, isT_tuple_str, isT_tuple_tup, isT_tuple_lst, isT_int_non, isT_int_bl, isT_int_int, isT_int_str, isT_int_tup, isT_int_lst, isT_bool_non, isT_bool_bl, isT_bool_int, isT_bool_str, isT_bool_tup, isT_bool_lst, isT_str_non, isT_str_bl, isT_str_int, isT_str_str, isT_str_tup, isT_str_lst, isT_list_non, isT_list_bl, isT_list_int, isT_list_str, isT_list_tup, isT_list_lst, isN_non, isN_bl, isN_int, isN_str, isN_tup, isN_lst, at_ints, sz_iff, big_iff, div_iff, mod_iff, mul_iff, mulW_iff, divW_iff, pow_iff, List.getElem?_cons_succ, List.getElem?_cons_zero, List.set_cons_zero, List.set_cons_succ, List.cons_append, List.nil_append, List.replicate, Option.map_some, Option.bind_some, decide_eq_true_eq, decide_eq_false_iff_not, Option.some.injEq, exists_eq_left', Bool.not_eq_true', Bool.not_eq_false', Bool.not_true, Bool.not_false, Int.not_lt, Int.not_le, true_and, and_true, if_true, List.length_cons, List.length_nil, List.map_cons, List.map_nil, true_imp_iff, false_imp_iff, imp_self, imp_true_iff, not_true_eq_false, not_false_eq_true, List.length_map, Bool.false_eq_true, if_false, Bool.true_eq_false, reduceCtorEq, nos, backs, Sl.keep, decide_true, decide_false, ilist_map, O.lf, List.contains_cons, List.contains_nil, Bool.and_eq_true, beq_self_eq_true, Bool.or_false, Bool.or_true, Bool.true_or, Bool.false_or, and_self, if_pos, gAt_some, ds_fz, Nat.reduceBEq, Nat.reduceEqDiff, ite_self, rangeD_len, numbered_len, Int.toNat_natCast, Nat.reduceAdd, Int.reduceMod, Int.reduceDiv, Int.reduceLT, Int.reduceLE, Int.reduceNeg, Int.reduceMul, Int.reduceAdd, Int.reduceSub, Int.reducePow, Nat.reduceAdd, Nat.reduceLT, Nat.reduceLeDiff, Int.reduceEq, true_or, or_true, Int.reduceToNat, Int.toNat_zero, Int.toNat_one, List.length_set, List.length_append, List.length_singleton, Int.reduceAbs]
    rw [cutD_map, cutD_to (by omega)]
    have hI : Items fs := hi.perm hp
    have htl : (fs.take (1 + x2).toNat).length = (1 + x2).toNat := by rw [List.length_take]; omega
    refine ⟨by rw [List.length_map, htl]; omega, ?_⟩
    generalize hts : fs.take (1 + x2).toNat = ts at *
    refine w_lcK (fun k ys Γ => ys = ((ts.take k).map (·.2)).map D.int ∧ Γ = [.ow (some 0) o2, Sl.fz (.lst (ps.map itD)), .fz (.int kind), .fz (.int (pre ps ps.length)), .fz (.lst (fs.map itD)), .no, .no, .no]) ⟨rfl, rfl⟩ ?_ ?_
    · rintro k d ys Γ hd ⟨rfl, rfl⟩
      have hk : k < ts.length := by simpa using (List.getElem?_eq_some_iff.mp hd).1
      rw [List.getElem?_map, List.getElem?_eq_getElem hk] at hd
      cases hd
      simp only [w_some, w_ofIf, w_ofMap, vAt_fz, w_var, w_C, k1_, w_1, k2b_, k2_, w_2, kA_, w_A, kMb_, kM_, w_M, w_aNil, kaCb_, kaC_, w_aCons, w_oNo, koAt_i, w_oAt, kSlc_, kSlb_, kSl_, w_Sl, ktB_, w_tB, bl_bl, ktT_, w_tTr, ktAnd_, w_tAnd, ktOr_, w_tOr, ktNot_, w_tNot, w_tYes, kIf_, w_If, kAnd_b, kOr_b, w_And, w_Or, ktL_, kbL_, kbF_, lentT_o, lentT_f, lentB_o, lentB_f, w_tBor, w_Bor, flat_int, flat_bl, flat_str, flat_non, kS_nx, kS_bk, kS_ct, kS_rt, w_Seq, kJ_s, w_J, w_Nx, w_Bk, w_Ct, kSet_, w_Set, kAugb_, kAugc_, kAug_, w_Aug, kParb_, kPar_, w_Par, gAt_some, kAsg_, w_Asg, kDrop_, w_Drop, kRet_, w_Ret, w_RetN, kIfS_, w_IfS, kApp_, kApp2_, appAt_, w_App, kPut_, putAt_, kPut2_, kPut3_, w_Put, w_Frz, frz_eq, frz1_ow, frz1_fz, kSetO_, w_SetO, kUp_, w_Up, kO_, w_O, dAt_, kFz_, w_Fz, rAt_ow, kRetO_, w_RetO, fEnd_rt, fEnd_nx, w_Fn, w_noEx, w_arNil, karb_, kar_, w_arCons, kasb_, kas_, w_arSlot, callAt_, kBack_, kCall_, w_Call, pull_nil, pull_fz, pull_sl, pull1_ow, push_nil, push_fz, push_sl, push1_ow, outs_nil, outs_f, outs_o, gN_ap, gTp_ap, gsNil_ap, gsCons_ap, kFor_, w_For, kiR_, w_iR, kiS_l, kiS_t, kiE_l, kiE_t, kiC_s, w_iC, w_iS, w_iE, kRnd_nx, kRnd_ct, kRnd_bk, kRnd_rt, kLcB_, kLcBO_, kLc_, kLcO_, w_Lc, w_LcO, kLcT_, kLcE_, v_add, v_sub, v_mul, v_div, v_mod, v_pow, v_ltA, v_leA, v_gtA, v_geA, v_eqA, v_neA, v_eqAs, v_eqAb, v_plusI, v_max2i, v_min2i, v_one, v_lenL, v_lenT, v_intI, v_tupL, v_tupT, v_lstL, v_lstT, v_sumL, v_sumT, v_maxL, v_minL, u_isN, u_notN, v_isT, v_not, u_neg, v_slL, v_slT, v_ixL, v_ixT, v_r1, v_r2, v_mulW, v_divW, v_gcdI, v_absI, v_sumR, v_foLstT, v_foLstL, v_foLst, v_tupOf, v_lstOf, o_fz, o_ol, o_nil, o_cons, at0, at1, at2, at3, at4, at5, at6, at7, ix_1_0, ix_2_0, ix_2_1, ix_3_0, ix_3_1, ix_3_2, ix_4_0, ix_4_1, ix_4_2, ix_4_3, ix_5_0, ix_5_1, ix_5_2, ix_5_3, ix_5_4, ix_6_0, ix_6_1, ix_6_2, ix_6_3, ix_6_4, ix_6_5, ix_7_0, ix_7_1, ix_7_2, ix_7_3, ix_7_4, ix_7_5, ix_7_6, ix_8_0, ix_8_1, ix_8_2, ix_8_3, ix_8_4, ix_8_5, ix_8_6, ix_8_7, ix_9_0, ix_9_1, ix_9_2, ix_9_3, ix_9_4, ix_9_5, ix_9_6, ix_9_7, ix_9_8, ix_10_0, ix_10_1, ix_10_2, ix_10_3, ix_10_4, ix_10_5, ix_10_6, ix_10_7, ix_10_8, ix_10_9, ix_11_0, ix_11_1, ix_11_2, ix_11_3, ix_11_4, ix_11_5, ix_11_6, ix_11_7, ix_11_8, ix_11_9, ix_11_10, ix_12_0, ix_12_1, ix_12_2, ix_12_3, ix_12_4, ix_12_5, ix_12_6, ix_12_7, ix_12_8, ix_12_9, ix_12_10, ix_12_11, isT_tuple_non, isT_tuple_bl, isT_tuple_int, isT_tuple_str, isT_tuple_tup, isT_tuple_lst, isT_int_non, isT_int_bl, isT_int_int, isT_int_str, isT_int_tup, isT_int_lst, isT_bool_non, isT_bool_bl, isT_bool_int, isT_bool_str, isT_bool_tup, isT_bool_lst, isT_str_non, isT_str_bl, isT_str_int, isT_str_str, isT_str_tup, isT_str_lst, isT_list_non, isT_list_bl, isT_list_int, isT_list_str, isT_list_tup, isT_list_lst, isN_non, isN_bl, isN_int, isN_str, isN_tup, isN_lst, at_ints, sz_iff, big_iff, div_iff, mod_iff, mul_iff, mulW_iff, divW_iff, pow_iff, List.getElem?_cons_succ, List.getElem?_cons_zero, List.set_cons_zero, List.set_cons_succ, List.cons_append, List.nil_append, List.replicate, Option.map_some, Option.bind_some, decide_eq_true_eq, decide_eq_false_iff_not, Option.some.injEq, exists_eq_left', Bool.not_eq_true', Bool.not_eq_false', Bool.not_true, Bool.not_false, Int.not_lt, Int.not_le, true_and, and_true, if_true, List.length_cons, List.length_nil, List.map_cons, List.map_nil, true_imp_iff, false_imp_iff, imp_self, imp_true_iff, not_true_eq_false, not_false_eq_true, List.length_map, Bool.false_eq_true, if_false, Bool.true_eq_false, reduceCtorEq, nos, backs, Sl.keep, decide_true, decide_false, ilist_map, O.lf, List.contains_cons, List.contains_nil, Bool.and_eq_true, beq_self_eq_true, Bool.or_false, Bool.or_true, Bool.true_or, Bool.false_or, and_self, if_pos, gAt_some, ds_fz, Nat.reduceBEq, Nat.reduceEqDiff, ite_self, rangeD_len, numbered_len, Int.toNat_natCast, Nat.reduceAdd, Int.reduceMod, Int.reduceDiv, Int.reduceLT, Int.reduceLE, Int.reduceNeg, Int.reduceMul, Int.reduceAdd, Int.reduceSub, Int.reducePow, Nat.reduceAdd, Nat.reduceLT, Nat.reduceLeDiff, Int.reduceEq, true_or, or_true, Int.reduceToNat, Int.toNat_zero, Int.toNat_one, List.length_set, List.length_append, List.length_singleton, Int.reduceAbs, itD, take_map_succ hk, List.map_append]
    rintro ys Γ ⟨rfl, rfl⟩
    rw [List.length_map]
    have eR : ((ts.take ts.length).map (·.2)).sum = pre fs (1 + x2).toNat := by rw [List.take_length, ← hts]; rfl
    obtain ⟨p1, p2, p3⟩ := hI.pre_le (1 + x2).toNat
    rw [pre_perm hp] at p2 p3
    simp only [w_some, w_ofIf, w_ofMap, vAt_fz, w_var, w_C, k1_, w_1, k2b_, k2_, w_2, kA_, w_A, kMb_, kM_, w_M, w_aNil, kaCb_, kaC_, w_aCons, w_oNo, koAt_i, w_oAt, kSlc_, kSlb_, kSl_, w_Sl, ktB_, w_tB, bl_bl, ktT_, w_tTr, ktAnd_, w_tAnd, ktOr_, w_tOr, ktNot_, w_tNot, w_tYes, kIf_, w_If, kAnd_b, kOr_b, w_And, w_Or, ktL_, kbL_, kbF_, lentT_o, lentT_f, lentB_o, lentB_f, w_tBor, w_Bor, flat_int, flat_bl, flat_str, flat_non, kS_nx, kS_bk, kS_ct, kS_rt, w_Seq, kJ_s, w_J, w_Nx, w_Bk, w_Ct, kSet_, w_Set, kAugb_, kAugc_, kAug_, w_Aug, kParb_, kPar_, w_Par, gAt_some, kAsg_, w_Asg, kDrop_, w_Drop, kRet_, w_Ret, w_RetN, kIfS_, w_IfS, kApp_, kApp2_, appAt_, w_App, kPut_, putAt_, kPut2_, kPut3_, w_Put, w_Frz, frz_eq, frz1_ow, frz1_fz, kSetO_, w_SetO, kUp_, w_Up, kO_, w_O, dAt_, kFz_, w_Fz, rAt_ow, kRetO_, w_RetO, fEnd_rt, fEnd_nx, w_Fn, w_noEx, w_arNil, karb_, kar_, w_arCons, kasb_, kas_, w_arSlot, callAt_, kBack_, kCall_, w_Call, pull_nil, pull_fz, pull_sl, pull1_ow, push_nil, push_fz, push_sl, push1_ow, outs_nil, outs_f, outs_o, gN_ap, gTp_ap, gsNil_ap, gsCons_ap, kFor_, w_For, kiR_, w_iR, kiS_l, kiS_t, kiE_l, kiE_t, kiC_s, w_iC, w_iS, w_iE, kRnd_nx, kRnd_ct, kRnd_bk, kRnd_rt, kLcB_, kLcBO_, kLc_, kLcO_, w_Lc, w_LcO, kLcT_, kLcE_, v_add, v_sub, v_mul, v_div, v_mod, v_pow, v_ltA, v_leA, v_gtA, v_geA, v_eqA, v_neA, v_eqAs, v_eqAb, v_plusI, v_max2i, v_min2i, v_one, v_lenL, v_lenT, v_intI, v_tupL, v_tupT, v_lstL, v_lstT, v_sumL, v_sumT, v_maxL, v_minL, u_isN, u_notN, v_isT, v_not, u_neg, v_slL, v_slT, v_ixL, v_ixT, v_r1, v_r2, v_mulW, v_divW, v_gcdI, v_absI, v_sumR, v_foLstT, v_foLstL, v_foLst, v_tupOf, v_lstOf, o_fz, o_ol, o_nil, o_cons, at0, at1, at2, at3, at4, at5, at6, at7, ix_1_0, ix_2_0, ix_2_1, ix_3_0, ix_3_1, ix_3_2, ix_4_0, ix_4_1, ix_4_2, ix_4_3, ix_5_0, ix_5_1, ix_5_2, ix_5_3, ix_5_4, ix_6_0, ix_6_1, ix_6_2, ix_6_3, ix_6_4, ix_6_5, ix_7_0, ix_7_1, ix_7_2, ix_7_3, ix_7_4, ix_7_5, ix_7_6, ix_8_0, ix_8_1, ix_8_2, ix_8_3, ix_8_4, ix_8_5, ix_8_6, ix_8_7, ix_9_0, ix_9_1, ix_9_2, ix_9_3, ix_9_4, ix_9_5, ix_9_6, ix_9_7, ix_9_8, ix_10_0, ix_10_1, ix_10_2, ix_10_3, ix_10_4, ix_10_5, ix_10_6, ix_10_7, ix_10_8, ix_10_9, ix_11_0, ix_11_1, ix_11_2, ix_11_3, ix_11_4, ix_11_5, ix_11_6, ix_11_7, ix_11_8, ix_11_9, ix_11_10, ix_12_0, ix_12_1, ix_12_2, ix_12_3, ix_12_4, ix_12_5, ix_12_6, ix_12_7, ix_12_8, ix_12_9, ix_12_10, ix_12_11, isT_tuple_non, isT_tuple_bl, isT_tuple_int, isT_tuple_str, isT_tuple_tup, isT_tuple_lst, isT_int_non, isT_int_bl, isT_int_int, isT_int_str, isT_int_tup, isT_int_lst, isT_bool_non, isT_bool_bl, isT_bool_int, isT_bool_str, isT_bool_tup, isT_bool_lst, isT_str_non, isT_str_bl, isT_str_int, isT_str_str, isT_str_tup, isT_str_lst, isT_list_non, isT_list_bl, isT_list_int, isT_list_str, isT_list_tup, isT_list_lst, isN_non, isN_bl, isN_int, isN_str, isN_tup, isN_lst, at_ints, sz_iff, big_iff, div_iff, mod_iff, mul_iff, mulW_iff, divW_iff, pow_iff, List.getElem?_cons_succ, List.getElem?_cons_zero, List.set_cons_zero, List.set_cons_succ, List.cons_append, List.nil_append, List.replicate, Option.map_some, Option.bind_some, decide_eq_true_eq, decide_eq_false_iff_not, Option.some.injEq, exists_eq_left', Bool.not_eq_true', Bool.not_eq_false', Bool.not_true, Bool.not_false, Int.not_lt, Int.not_le, true_and, and_true, if_true, List.length_cons, List.length_nil, List.map_cons, List.map_nil, true_imp_iff, false_imp_iff, imp_self, imp_true_iff, not_true_eq_false, not_false_eq_true, List.length_map, Bool.false_eq_true, if_false, Bool.true_eq_false, reduceCtorEq, nos, backs, Sl.keep, decide_true, decide_false, ilist_map, O.lf, List.contains_cons, List.contains_nil, Bool.and_eq_true, beq_self_eq_true, Bool.or_false, Bool.or_true, Bool.true_or, Bool.false_or, and_self, if_pos, gAt_some, ds_fz, Nat.reduceBEq, Nat.reduceEqDiff, ite_self, rangeD_len, numbered_len, Int.toNat_natCast, Nat.reduceAdd, Int.reduceMod, Int.reduceDiv, Int.reduceLT, Int.reduceLE, Int.reduceNeg, Int.reduceMul, Int.reduceAdd, Int.reduceSub, Int.reducePow, Nat.reduceAdd, Nat.reduceLT, Nat.reduceLeDiff, Int.reduceEq, true_or, or_true, Int.reduceToNat, Int.toNat_zero, Int.toNat_one, List.length_set, List.length_append, List.length_singleton, Int.reduceAbs, eR]
    refine ⟨by omega, ?_⟩
    refine draw_wp (by assumption) (by omega) (by omega) fun x3 o3 hx3 kx3 ho3 => ?_; simp only [w_some, w_ofIf, w_ofMap, vAt_fz, w_var, w_C, k1_, w_1, k2b_, k2_, w_2, kA_, w_A, kMb_, kM_, w_M, w_aNil, kaCb_, kaC_, w_aCons, w_oNo, koAt_i, w_oAt, kSlc_, kSlb_, kSl_, w_Sl, ktB_, w_tB, bl_bl, ktT_, w_tTr, ktAnd_, w_tAnd, ktOr_, w_tOr, ktNot_, w_tNot, w_tYes, kIf_, w_If, kAnd_b, kOr_b, w_And, w_Or, ktL_, kbL_, kbF_, lentT_o, lentT_f, lentB_o, lentB_f, w_tBor, w_Bor, flat_int, flat_bl, flat_str, flat_non, kS_nx, kS_bk, kS_ct, kS_rt, w_Seq, kJ_s, w_J, w_Nx, w_Bk, w_Ct, kSet_, w_Set, kAugb_, kAugc_, kAug_, w_Aug, kParb_, kPar_, w_Par, gAt_some, kAsg_, w_Asg, kDrop_, w_Drop, kRet_, w_Ret, w_RetN, kIfS_, w_IfS, kApp_, kApp2_, appAt_, w_App, kPut_, putAt_, kPut2_, kPut3_, w_Put, w_Frz, frz_eq, frz1_ow, frz1_fz, kSetO_, w_SetO, kUp_, w_Up, kO_, w_O, dAt_, kFz_, w_Fz, rAt_ow, kRetO_, w_RetO, fEnd_rt, fEnd_nx, w_Fn, w_noEx, w_arNil, karb_, kar_, w_arCons, kasb_, kas_, w_arSlot, callAt_, kBack_, kCall_, w_Call, pull_nil, pull_fz, pull_sl, pull1_ow, push_nil, push_fz, push_sl, push1_ow, outs_nil, outs_f, outs_o, gN_ap, gTp_ap, gsNil_ap, gsCons_ap, kFor_, w_For, kiR_, w_iR, kiS_l, kiS_t, kiE_l, kiE_t, kiC_s, w_iC, w_iS, w_iE, kRnd_nx, kRnd_ct, kRnd_bk, kRnd_rt, kLcB_, kLcBO_, kLc_, kLcO_, w_Lc, w_LcO, kLcT_, kLcE_, v_add, v_sub, v_mul, v_div, v_mod, v_pow, v_ltA, v_leA, v_gtA, v_geA, v_eqA, v_neA, v_eqAs, v_eqAb, v_plusI, v_max2i, v_min2i, v_one, v_lenL, v_lenT, v_intI, v_tupL, v_tupT, v_lstL, v_lstT, v_sumL, v_sumT, v_maxL, v_minL, u_isN, u_notN, v_isT, v_not, u_neg, v_slL, v_slT, v_ixL, v_ixT, v_r1, v_r2, v_mulW, v_divW, v_gcdI, v_absI, v_sumR, v_foLstT, v_foLstL, v_foLst, v_tupOf, v_lstOf, o_fz, o_ol, o_nil, o_cons, at0, at1, at2, at3, at4, at5, at6, at7, ix_1_0, ix_2_0, ix_2_1, ix_3_0, ix_3_1, ix_3_2, ix_4_0, ix_4_1, ix_4_2, ix_4_3, ix_5_0, ix_5_1, ix_5_2, ix_5_3, ix_5_4, ix_6_0, ix_6_1, ix_6_2, ix_6_3, ix_6_4, ix_6_5, ix_7_0, ix_7_1, ix_7_2, ix_7_3, ix_7_4, ix_7_5, ix_7_6, ix_8_0, ix_8_1, ix_8_2, ix_8_3, ix_8_4, ix_8_5, ix_8_6, ix_8_7, ix_9_0, ix_9_1, ix_9_2, ix_9_3, ix_9_4, ix_9_5, ix_9_6, ix_9_7, ix_9_8, ix_10_0, ix_10_1, ix_10_2, ix_10_3, ix_10_4, ix_10_5, ix_10_6, ix_10_7, ix_10_8, ix_10_9, ix_11_0, ix_11_1, ix_11_2, ix_11_3, ix_11_4, ix_11_5, ix_11_6, ix_11_7, ix_11_8, ix_11_9, ix_11_10, ix_12_0, ix_12_1, ix_12_2, ix_12_3, ix_12_4, ix_12_5, ix_12_6, ix_12_7, ix_12_8, ix_12_9, ix_12_10, ix_12_11, isT_tuple_non, isT_tuple_bl, isT_tuple_int, isT_tuple_str, isT_tuple_tup, isT_tuple_lst, isT_int_non, isT_int_bl, isT_int_int, isT_int_str, isT_int_tup, isT_int_lst, isT_bool_non, isT_bool_bl, isT_bool_int, isT_bool_str, isT_bool_tup, isT_bool_lst, isT_str_non, isT_str_bl, isT_str_int, isT_str_str, isT_str_tup, isT_str_lst, isT_list_non, isT_list_bl, isT_list_int, isT_list_str, isT_list_tup, isT_list_lst, isN_non, isN_bl, isN_int, isN_str, isN_tup, isN_lst, at_ints, sz_iff, big_iff, div_iff, mod_iff, mul_iff, mulW_iff, divW_iff, pow_iff, List.getElem?_cons_succ, List.getElem?_cons_zero, List.set_cons_zero, List.set_cons_succ, List.cons_append, List.nil_append, List.replicate, Option.map_some, Option.bind_some, decide_eq_true_eq, decide_eq_false_iff_not, Option.some.injEq, exists_eq_left', Bool.not_eq_true', Bool.not_eq_false', Bool.not_true, Bool.not_false, Int.not_lt, Int.not_le, true_and, and_true, if_true, List.length_cons, List.length_nil, List.map_cons, List.map_nil, true_imp_iff, false_imp_iff, imp_self, imp_true_iff, not_true_eq_false, not_false_eq_true, List.length_map, Bool.false_eq_true, if_false, Bool.true_eq_false, reduceCtorEq, nos, backs, Sl.keep, decide_true, decide_false, ilist_map, O.lf, List.contains_cons, List.contains_nil, Bool.and_eq_true, beq_self_eq_true, Bool.or_false, Bool.or_true, Bool.true_or, Bool.false_or, and_self, if_pos, gAt_some, ds_fz, Nat.reduceBEq, Nat.reduceEqDiff, ite_self, rangeD_len, numbered_len, Int.toNat_natCast, Nat.reduceAdd, Int.reduceMod, Int.reduceDiv, Int.reduceLT, Int.reduceLE, Int.reduceNeg, Int.reduceMul, Int.reduceAdd, Int.reduceSub, Int.reducePow, Nat.reduceAdd, Nat.reduceLT, Nat.reduceLeDiff, Int.reduceEq, true_or, or_true, Int.reduceToNat, Int.toNat_zero, Int.toNat_one, List.length_set, List.length_append, List.length_singleton, Int.reduceAbs]
    have d1 : 0 ≤ 100 * pre fs (1 + x2).toNat / pre ps ps.length := Int.ediv_nonneg (by omega) (by omega)
    have d2 : 100 * pre fs (1 + x2).toNat / pre ps ps.length ≤ 100 := Int.ediv_le_of_le_mul (by omega) (by omega)
    have d3 : 0 ≤ kind * x3 := Int.mul_nonneg hkind hx3
    generalize 100 * pre fs (1 + x2).toNat / pre ps ps.length = Q at d1 d2 ⊢
    refine ⟨.inl (by omega), .inr ⟨_, o3, _, _, rfl, ?_, ?_, ho3, rfl⟩⟩
    · split <;> omega
    · split <;> omega
  · rintro f Γ (⟨rfl, o2, ho2, rfl⟩ | ⟨p, o2, s4, s5, rfl, h0, h1, ho2, rfl⟩)
    · simp only [w_some, w_ofIf, w_ofMap, vAt_fz, w_var, w_C, k1_, w_1, k2b_, k2_, w_2, kA_, w_A, kMb_, kM_, w_M, w_aNil, kaCb_, kaC_, w_aCons, w_oNo, koAt_i, w_oAt, kSlc_, kSlb_, kSl_, w_Sl, ktB_, w_tB, bl_bl, ktT_, w_tTr, ktAnd_, w_tAnd, ktOr_, w_tOr, ktNot_, w_tNot, w_tYes, kIf_, w_If, kAnd_b, kOr_b, w_And, w_Or, ktL_, kbL_, kbF_, lentT_o, lentT_f, lentB_o, lentB_f, w_tBor, w_Bor, flat_int, flat_bl, flat_str, flat_non, kS_nx, kS_bk, kS_ct, kS_rt, w_Seq, kJ_s, w_J, w_Nx, w_Bk, w_Ct, kSet_, w_Set, kAugb_, kAugc_, kAug_, w_Aug, kParb_, kPar_, w_Par, gAt_some, kAsg_, w_Asg, kDrop_, w_Drop, kRet_, w_Ret, w_RetN, kIfS_, w_IfS, kApp_, kApp2_, appAt_, w_App, kPut_, putAt_, kPut2_, kPut3_, w_Put, w_Frz, frz_eq, frz1_ow, frz1_fz, kSetO_, w_SetO, kUp_, w_Up, kO_, w_O, dAt_, kFz_, w_Fz, rAt_ow, kRetO_, w_RetO, fEnd_rt, fEnd_nx, w_Fn, w_noEx, w_arNil, karb_, kar_, w_arCons, kasb_, kas_, w_arSlot, callAt_, kBack_, kCall_, w_Call, pull_nil, pull_fz, pull_sl, pull1_ow, push_nil, push_fz, push_sl, push1_ow, outs_nil, outs_f, outs_o, gN_ap, gTp_ap, gsNil_ap, gsCons_ap, kFor_, w_For, kiR_, w_iR, kiS_l, kiS_t, kiE_l, kiE_t, kiC_s, w_iC, w_iS, w_iE, kRnd_nx, kRnd_ct, kRnd_bk, kRnd_rt, kLcB_, kLcBO_, kLc_, kLcO_, w_Lc, w_LcO, kLcT_, kLcE_, v_add, v_sub, v_mul, v_div, v_mod, v_pow, v_ltA, v_leA, v_gtA, v_geA, v_eqA, v_neA, v_eqAs, v_eqAb, v_plusI, v_max2i, v_min2i, v_one, v_lenL, v_lenT, v_intI, v_tupL, v_tupT, v_lstL, v_lstT, v_sumL, v_sumT, v_maxL, v_minL, u_isN, u_notN, v_isT, v_not, u_neg, v_slL, v_slT, v_ixL, v_ixT, v_r1, v_r2, v_mulW, v_divW, v_gcdI, v_absI, v_sumR, v_foLstT, v_foLstL, v_foLst, v_tupOf, v_lstOf, o_fz, o_ol, o_nil, o_cons, at0, at1, at2, at3, at4, at5, at6, at7, ix_1_0, ix_2_0, ix_2_1, ix_3_0, ix_3_1, ix_3_2, ix_4_0, ix_4_1, ix_4_2, ix_4_3, ix_5_0, ix_5_1, ix_5_2, ix_5_3, ix_5_4, ix_6_0, ix_6_1, ix_6_2, ix_6_3, ix_6_4, ix_6_5, ix_7_0, ix_7_1, ix_7_2, ix_7_3, ix_7_4, ix_7_5, ix_7_6, ix_8_0, ix_8_1, ix_8_2, ix_8_3, ix_8_4, ix_8_5, ix_8_6, ix_8_7, ix_9_0, ix_9_1, ix_9_2, ix_9_3, ix_9_4, ix_9_5, ix_9_6, ix_9_7, ix_9_8, ix_10_0, ix_10_1, ix_10_2, ix_10_3, ix_10_4, ix_10_5, ix_10_6, ix_10_7, ix_10_8, ix_10_9, ix_11_0, ix_11_1, ix_11_2, ix_11_3, ix_11_4, ix_11_5, ix_11_6, ix_11_7, ix_11_8, ix_11_9, ix_11_10, ix_12_0, ix_12_1, ix_12_2, ix_12_3, ix_12_4, ix_12_5, ix_12_6, ix_12_7, ix_12_8, ix_12_9, ix_12_10, ix_12_11, isT_tuple_non, isT_tuple_bl, isT_tuple_int, isT_tuple_str, isT_tuple_tup, isT_tuple_lst, isT_int_non, isT_int_bl, isT_int_int, isT_int_str, isT_int_tup, isT_int_lst, isT_bool_non, isT_bool_bl, isT_bool_int, isT_bool_str, isT_bool_tup, isT_bool_lst, isT_str_non, isT_str_bl, isT_str_int, isT_str_str, isT_str_tup, isT_str_lst, isT_list_non, isT_list_bl, isT_list_int, isT_list_str, isT_list_tup, isT_list_lst, isN_non, isN_bl, isN_int, isN_str, isN_tup, isN_lst, at_ints, sz_iff, big_iff, div_iff, mod_iff, mul_iff, mulW_iff, divW_iff, pow_iff, List.getElem?_cons_succ, List.getElem?_cons_zero, List.set_cons_zero, List.set_cons_succ, List.cons_append, List.nil_append, List.replicate, Option.map_some, Option.bind_some, decide_eq_true_eq, decide_eq_false_iff_not, Option.some.injEq, exists_eq_left', Bool.not_eq_true', Bool.not_eq_false', Bool.not_true, Bool.not_false, Int.not_lt, Int.not_le, true_and, and_true, if_true, List.length_cons, List.length_nil, List.map_cons, List.map_nil, true_imp_iff, false_imp_iff, imp_self, imp_true_iff, not_true_eq_false, not_false_eq_true, List.length_map, Bool.false_eq_true, if_false, Bool.true_eq_false, reduceCtorEq, nos, backs, Sl.keep, decide_true, decide_false, ilist_map, O.lf, List.contains_cons, List.contains_nil, Bool.and_eq_true, beq_self_eq_true, Bool.or_false, Bool.or_true, Bool.true_or, Bool.false_or, and_self, if_pos, gAt_some, ds_fz, Nat.reduceBEq, Nat.reduceEqDiff, ite_self, rangeD_len, numbered_len, Int.toNat_natCast, Nat.reduceAdd, Int.reduceMod, Int.reduceDiv, Int.reduceLT, Int.reduceLE, Int.reduceNeg, Int.reduceMul, Int.reduceAdd, Int.reduceSub, Int.reducePow, Nat.reduceAdd, Nat.reduceLT, Nat.reduceLeDiff, Int.reduceEq, true_or, or_true, Int.reduceToNat, Int.toNat_zero, Int.toNat_one, List.length_set, List.length_append, List.length_singleton, Int.reduceAbs]
      refine draw_wp (by assumption) (by omega) (by omega) fun x4 o4 hx4 kx4 ho4 => ?_; simp only [w_some, w_ofIf, w_ofMap, vAt_fz, w_var, w_C, k1_, w_1, k2b_, k2_, w_2, kA_, w_A, kMb_, kM_, w_M, w_aNil, kaCb_, kaC_, w_aCons, w_oNo, koAt_i, w_oAt, kSlc_, kSlb_, kSl_, w_Sl, ktB_, w_tB, bl_bl, ktT_, w_tTr, ktAnd_, w_tAnd, ktOr_, w_tOr, ktNot_, w_tNot, w_tYes, kIf_, w_If, kAnd_b, kOr_b, w_And, w_Or, ktL_, kbL_, kbF_, lentT_o, lentT_f, lentB_o, lentB_f, w_tBor, w_Bor, flat_int, flat_bl, flat_str, flat_non, kS_nx, kS_bk, kS_ct, kS_rt, w_Seq, kJ_s, w_J, w_Nx, w_Bk, w_Ct, kSet_, w_Set, kAugb_, kAugc_, kAug_, w_Aug, kParb_, kPar_, w_Par, gAt_some, kAsg_, w_Asg, kDrop_, w_Drop, kRet_, w_Ret, w_RetN, kIfS_, w_IfS, kApp_, kApp2_, appAt_, w_App, kPut_, putAt_, kPut2_, kPut3_, w_Put, w_Frz, frz_eq, frz1_ow, frz1_fz, kSetO_, w_SetO, kUp_, w_Up, kO_, w_O, dAt_, kFz_, w_Fz, rAt_ow, kRetO_, w_RetO, fEnd_rt, fEnd_nx, w_Fn, w_noEx, w_arNil, karb_, kar_, w_arCons, kasb_, kas_, w_arSlot, callAt_, kBack_, kCall_, w_Call, pull_nil, pull_fz, pull_sl, pull1_ow, push_nil, push_fz, push_sl, push1_ow, outs_nil, outs_f, outs_o, gN_ap, gTp_ap, gsNil_ap, gsCons_ap, kFor_, w_For, kiR_, w_iR, kiS_l, kiS_t, kiE_l, kiE_t, kiC_s, w_iC, w_iS, w_iE, kRnd_nx, kRnd_ct, kRnd_bk, kRnd_rt, kLcB_, kLcBO_, kLc_, kLcO_, w_Lc, w_LcO, kLcT_, kLcE_, v_add, v_sub, v_mul, v_div, v_mod, v_pow, v_ltA, v_leA, v_gtA, v_geA, v_eqA, v_neA, v_eqAs, v_eqAb, v_plusI, v_max2i, v_min2i, v_one, v_lenL, v_lenT, v_intI, v_tupL, v_tupT, v_lstL, v_lstT, v_sumL, v_sumT, v_maxL, v_minL, u_isN, u_notN, v_isT, v_not, u_neg, v_slL, v_slT, v_ixL, v_ixT, v_r1, v_r2, v_mulW, v_divW, v_gcdI, v_absI, v_sumR, v_foLstT, v_foLstL, v_foLst, v_tupOf, v_lstOf, o_fz, o_ol, o_nil, o_cons, at0, at1, at2, at3, at4, at5, at6, at7, ix_1_0, ix_2_0, ix_2_1, ix_3_0, ix_3_1, ix_3_2, ix_4_0, ix_4_1, ix_4_2, ix_4_3, ix_5_0, ix_5_1, ix_5_2, ix_5_3, ix_5_4, ix_6_0, ix_6_1, ix_6_2, ix_6_3, ix_6_4, ix_6_5, ix_7_0, ix_7_1, ix_7_2, ix_7_3, ix_7_4, ix_7_5, ix_7_6, ix_8_0, ix_8_1, ix_8_2, ix_8_3, ix_8_4, ix_8_5, ix_8_6, ix_8_7, ix_9_0, ix_9_1, ix_9_2, ix_9_3, ix_9_4, ix_9_5, ix_9_6, ix_9_7, ix_9_8, ix_10_0, ix_10_1, ix_10_2, ix_10_3, ix_10_4, ix_10_5, ix_10_6, ix_10_7, ix_10_8, ix_10_9, ix_11_0, ix_11_1, ix_11_2, ix_11_3, ix_11_4, ix_11_5, ix_11_6, ix_11_7, ix_11_8, ix_11_9, ix_11_10, ix_12_0, ix_12_1, ix_12_2, ix_12_3, ix_12_4, ix_12_5, ix_12_6, ix_12_7, ix_12_8, ix_12_9, ix_12_10, ix_12_11, isT_tuple_non, isT_tuple_bl, isT_tuple_int, isT_tuple_str, isT_tuple_tup, isT_tuple_lst, isT_int_non, isT_int_bl, isT_int_int, isT_int_str, isT_int_tup, isT_int_lst, isT_bool_non, isT_bool_bl, isT_bool_int, isT_bool_str, isT_bool_tup, isT_bool_lst, isT_str_non, isT_str_bl, isT_str_int, isT_str_str, isT_str_tup, isT_str_lst, isT_list_non, isT_list_bl, isT_list_int, isT_list_str, isT_list_tup, isT_list_lst, isN_non, isN_bl, isN_int, isN_str, isN_tup, isN_lst, at_ints, sz_iff, big_iff, div_iff, mod_iff, mul_iff, mulW_iff, divW_iff, pow_iff, List.getElem?_cons_succ, List.getElem?_cons_zero, List.set_cons_zero, List.set_cons_succ, List.cons_append, List.nil_append, List.replicate, Option.map_some, Option.bind_some, decide_eq_true_eq, decide_eq_false_iff_not, Option.some.injEq, exists_eq_left', Bool.not_eq_true', Bool.not_eq_false', Bool.not_true, Bool.not_false, Int.not_lt, Int.not_le, true_and, and_true, if_true, List.length_cons, List.length_nil, List.map_cons, List.map_nil, true_imp_iff, false_imp_iff, imp_self, imp_true_iff, not_true_eq_false, not_false_eq_true, List.length_map, Bool.false_eq_true, if_false, Bool.true_eq_false, reduceCtorEq, nos, backs, Sl.keep, decide_true, decide_false, ilist_map, O.lf, List.contains_cons, List.contains_nil, Bool.and_eq_true, beq_self_eq_true, Bool.or_false, Bool.or_true, Bool.true_or, Bool.false_or, and_self, if_pos, gAt_some, ds_fz, Nat.reduceBEq, Nat.reduceEqDiff, ite_self, rangeD_len, numbered_len, Int.toNat_natCast, Nat.reduceAdd, Int.reduceMod, Int.reduceDiv, Int.reduceLT, Int.reduceLE, Int.reduceNeg, Int.reduceMul, Int.reduceAdd, Int.reduceSub, Int.reducePow, Nat.reduceAdd, Nat.reduceLT, Nat.reduceLeDiff, Int.reduceEq, true_or, or_true, Int.reduceToNat, Int.toNat_zero, Int.toNat_one, List.length_set, List.length_append, List.length_singleton, Int.reduceAbs]
      refine draw_wp (by assumption) (by omega) (by omega) fun x5 o5 hx5 kx5 ho5 => ?_; simp only [w_some, w_ofIf, w_ofMap, vAt_fz, w_var, w_C, k1_, w_1, k2b_, k2_, w_2, kA_, w_A, kMb_, kM_, w_M, w_aNil, kaCb_, kaC_, w_aCons, w_oNo, koAt_i, w_oAt, kSlc_, kSlb_, kSl_, w_Sl, ktB_, w_tB, bl_bl, ktT_, w_tTr, ktAnd_, w_tAnd, ktOr_, w_tOr, ktNot_, w_tNot, w_tYes, kIf_, w_If, kAnd_b, kOr_b, w_And, w_Or, ktL_, kbL_, kbF_, lentT_o, lentT_f, lentB_o, lentB_f, w_tBor, w_Bor, flat_int, flat_bl, flat_str, flat_non, kS_nx, kS_bk, kS_ct, kS_rt, w_Seq, kJ_s, w_J, w_Nx, w_Bk, w_Ct, kSet_, w_Set, kAugb_, kAugc_, kAug_, w_Aug, kParb_, kPar_, w_Par, gAt_some, kAsg_, w_Asg, kDrop_, w_Drop, kRet_, w_Ret, w_RetN, kIfS_, w_IfS, kApp_, kApp2_, appAt_, w_App, kPut_, putAt_, kPut2_, kPut3_, w_Put, w_Frz, frz_eq, frz1_ow, frz1_fz, kSetO_, w_SetO, kUp_, w_Up, kO_, w_O, dAt_, kFz_, w_Fz, rAt_ow, kRetO_, w_RetO, fEnd_rt, fEnd_nx, w_Fn, w_noEx, w_arNil, karb_, kar_, w_arCons, kasb_, kas_, w_arSlot, callAt_, kBack_, kCall_, w_Call, pull_nil, pull_fz, pull_sl, pull1_ow, push_nil, push_fz, push_sl, push1_ow, outs_nil, outs_f, outs_o, gN_ap, gTp_ap, gsNil_ap, gsCons_ap, kFor_, w_For, kiR_, w_iR, kiS_l, kiS_t, kiE_l, kiE_t, kiC_s, w_iC, w_iS, w_iE, kRnd_nx, kRnd_ct, kRnd_bk, kRnd_rt, kLcB_, kLcBO_, kLc_, kLcO_, w_Lc, w_LcO, kLcT_, kLcE_, v_add, v_sub, v_mul, v_div, v_mod, v_pow, v_ltA, v_leA, v_gtA, v_geA, v_eqA, v_neA, v_eqAs, v_eqAb, v_plusI, v_max2i, v_min2i, v_one, v_lenL, v_lenT, v_intI, v_tupL, v_tupT, v_lstL, v_lstT, v_sumL, v_sumT, v_maxL, v_minL, u_isN, u_notN, v_isT, v_not, u_neg, v_slL, v_slT, v_ixL, v_ixT, v_r1, v_r2, v_mulW, v_divW, v_gcdI, v_absI, v_sumR, v_foLstT, v_foLstL, v_foLst, v_tupOf, v_lstOf, o_fz, o_ol, o_nil, o_cons, at0, at1, at2, at3, at4, at5, at6, at7, ix_1_0, ix_2_0, ix_2_1, ix_3_0, ix_3_1, ix_3_2, ix_4_0, ix_4_1, ix_4_2, ix_4_3, ix_5_0, ix_5_1, ix_5_2, ix_5_3, ix_5_4, ix_6_0, ix_6_1, ix_6_2, ix_6_3, ix_6_4, ix_6_5, ix_7_0, ix_7_1, ix_7_2, ix_7_3, ix_7_4, ix_7_5, ix_7_6, ix_8_0, ix_8_1, ix_8_2, ix_8_3, ix_8_4, ix_8_5, ix_8_6, ix_8_7, ix_9_0, ix_9_1, ix_9_2, ix_9_3, ix_9_4, ix_9_5, ix_9_6, ix_9_7, ix_9_8, ix_10_0, ix_10_1, ix_10_2, ix_10_3, ix_10_4, ix_10_5, ix_10_6, ix_10_7, ix_10_8, ix_10_9, ix_11_0, ix_11_1, ix_11_2, ix_11_3, ix_11_4, ix_11_5, ix_11_6, ix_11_7, ix_11_8, ix_11_9, ix_11_10, ix_12_0, ix_12_1, ix_12_2, ix_12_3, ix_12_4, ix_12_5, ix_12_6, ix_12_7, ix_12_8, ix_12_9, ix_12_10, ix_12_11, isT_tuple_non, isT_tuple_bl, isT_tuple_int, isT_tuple_str, isT_tuple_tup, isT_tuple_lst, isT_int_non, isT_int_bl, isT_int_int, isT_int_str, isT_int_tup, isT_int_lst, isT_bool_non, isT_bool_bl, isT_bool_int, isT_bool_str, isT_bool_tup, isT_bool_lst, isT_str_non, isT_str_bl, isT_str_int, isT_str_str, isT_str_tup, isT_str_lst, isT_list_non, isT_list_bl, isT_list_int, isT_list_str, isT_list_tup, isT_list_lst, isN_non, isN_bl, isN_int, isN_str, isN_tup, isN_lst, at_ints, sz_iff, big_iff, div_iff, mod_iff, mul_iff, mulW_iff, divW_iff, pow_iff, List.getElem?_cons_succ, List.getElem?_cons_zero, List.set_cons_zero, List.set_cons_succ, List.cons_append, List.nil_append, List.replicate, Option.map_some, Option.bind_some, decide_eq_true_eq, decide_eq_false_iff_not, Option.some.injEq, exists_eq_left', Bool.not_eq_true', Bool.not_eq_false', Bool.not_true, Bool.not_false, Int.not_lt, Int.not_le, true_and, and_true, if_true, List.length_cons, List.length_nil, List.map_cons, List.map_nil, true_imp_iff, false_imp_iff, imp_self, imp_true_iff, not_true_eq_false, not_false_eq_true, List.length_map, Bool.false_eq_true, if_false, Bool.true_eq_false, reduceCtorEq, nos, backs, Sl.keep, decide_true, decide_false, ilist_map, O.lf, List.contains_cons, List.contains_nil, Bool.and_eq_true, beq_self_eq_true, Bool.or_false, Bool.or_true, Bool.true_or, Bool.false_or, and_self, if_pos, gAt_some, ds_fz, Nat.reduceBEq, Nat.reduceEqDiff, ite_self, rangeD_len, numbered_len, Int.toNat_natCast, Nat.reduceAdd, Int.reduceMod, Int.reduceDiv, Int.reduceLT, Int.reduceLE, Int.reduceNeg, Int.reduceMul, Int.reduceAdd, Int.reduceSub, Int.reducePow, Nat.reduceAdd, Nat.reduceLT, Nat.reduceLeDiff, Int.reduceEq, true_or, or_true, Int.reduceToNat, Int.toNat_zero, Int.toNat_one, List.length_set, List.length_append, List.length_singleton, Int.reduceAbs]
      refine draw_wp (by assumption) (by omega) (by omega) fun x6 o6 hx6 kx6 ho6 => ?_; simp only [w_some, w_ofIf, w_ofMap, vAt_fz, w_var, w_C, k1_, w_1, k2b_, k2_, w_2, kA_, w_A, kMb_, kM_, w_M, w_aNil, kaCb_, kaC_, w_aCons, w_oNo, koAt_i, w_oAt, kSlc_, kSlb_, kSl_, w_Sl, ktB_, w_tB, bl_bl, ktT_, w_tTr, ktAnd_, w_tAnd, ktOr_, w_tOr, ktNot_, w_tNot, w_tYes, kIf_, w_If, kAnd_b, kOr_b, w_And, w_Or, ktL_, kbL_, kbF_, lentT_o, lentT_f, lentB_o, lentB_f, w_tBor, w_Bor, flat_int, flat_bl, flat_str, flat_non, kS_nx, kS_bk, kS_ct, kS_rt, w_Seq, kJ_s, w_J, w_Nx, w_Bk, w_Ct, kSet_, w_Set, kAugb_, kAugc_, kAug_, w_Aug, kParb_, kPar_, w_Par, gAt_some, kAsg_, w_Asg, kDrop_, w_Drop, kRet_, w_Ret, w_RetN, kIfS_, w_IfS, kApp_, kApp2_, appAt_, w_App, kPut_, putAt_, kPut2_, kPut3_, w_Put, w_Frz, frz_eq, frz1_ow, frz1_fz, kSetO_, w_SetO, kUp_, w_Up, kO_, w_O, dAt_, kFz_, w_Fz, rAt_ow, kRetO_, w_RetO, fEnd_rt, fEnd_nx, w_Fn, w_noEx, w_arNil, karb_, kar_, w_arCons, kasb_, kas_, w_arSlot, callAt_, kBack_, kCall_, w_Call, pull_nil, pull_fz, pull_sl, pull1_ow, push_nil, push_fz, push_sl, push1_ow, outs_nil, outs_f, outs_o, gN_ap, gTp_ap, gsNil_ap, gsCons_ap, kFor_, w_For, kiR_, w_iR, kiS_l, kiS_t, kiE_l, kiE_t, kiC_s, w_iC, w_iS, w_iE, kRnd_nx, kRnd_ct, kRnd_bk, kRnd_rt, kLcB_, kLcBO_, kLc_, kLcO_, w_Lc, w_LcO, kLcT_, kLcE_, v_add, v_sub, v_mul, v_div, v_mod, v_pow, v_ltA, v_leA, v_gtA, v_geA, v_eqA, v_neA, v_eqAs, v_eqAb, v_plusI, v_max2i, v_min2i, v_one, v_lenL, v_lenT, v_intI, v_tupL, v_tupT, v_lstL, v_lstT, v_sumL, v_sumT, v_maxL, v_minL, u_isN, u_notN, v_isT, v_not, u_neg, v_slL, v_slT, v_ixL, v_ixT, v_r1, v_r2, v_mulW, v_divW, v_gcdI, v_absI, v_sumR, v_foLstT, v_foLstL, v_foLst, v_tupOf, v_lstOf, o_fz, o_ol, o_nil, o_cons, at0, at1, at2, at3, at4, at5, at6, at7, ix_1_0, ix_2_0, ix_2_1, ix_3_0, ix_3_1, ix_3_2, ix_4_0, ix_4_1, ix_4_2, ix_4_3, ix_5_0, ix_5_1, ix_5_2, ix_5_3, ix_5_4, ix_6_0, ix_6_1, ix_6_2, ix_6_3, ix_6_4, ix_6_5, ix_7_0, ix_7_1, ix_7_2, ix_7_3, ix_7_4, ix_7_5, ix_7_6, ix_8_0, ix_8_1, ix_8_2, ix_8_3, ix_8_4, ix_8_5, ix_8_6, ix_8_7, ix_9_0, ix_9_1, ix_9_2, ix_9_3, ix_9_4, ix_9_5, ix_9_6, ix_9_7, ix_9_8, ix_10_0, ix_10_1, ix_10_2, ix_10_3, ix_10_4, ix_10_5, ix_10_6, ix_10_7, ix_10_8, ix_10_9, ix_11_0, ix_11_1, ix_11_2, ix_11_3, ix_11_4, ix_11_5, ix_11_6, ix_11_7, ix_11_8, ix_11_9, ix_11_10, ix_12_0, ix_12_1, ix_12_2, ix_12_3, ix_12_4, ix_12_5, ix_12_6, ix_12_7, ix_12_8, ix_12_9, ix_12_10, ix_12_11, isT_tuple_non, isT_tuple_bl, isT_tuple_int, isT_tuple_str, isT_tuple_tup, isT_tuple_lst, isT_int_non, isT_int_bl, isT_int_int, isT_int_str, isT_int_tup, isT_int_lst, isT_bool_non, isT_bool_bl, isT_bool_int, isT_bool_str, isT_bool_tup, isT_bool_lst, isT_str_non, isT_str_bl, isT_str_int, isT_str_str, isT_str_tup, isT_str_lst, isT_list_non, isT_list_bl, isT_list_int, isT_list_str, isT_list_tup, isT_list_lst, isN_non, isN_bl, isN_int, isN_str, isN_tup, isN_lst, at_ints, sz_iff, big_iff, div_iff, mod_iff, mul_iff, mulW_iff, divW_iff, pow_iff, List.getElem?_cons_succ, List.getElem?_cons_zero, List.set_cons_zero, List.set_cons_succ, List.cons_append, List.nil_append, List.replicate, Option.map_some, Option.bind_some, decide_eq_true_eq, decide_eq_false_iff_not, Option.some.injEq, exists_eq_left', Bool.not_eq_true', Bool.not_eq_false', Bool.not_true, Bool.not_false, Int.not_lt, Int.not_le, true_and, and_true, if_true, List.length_cons, List.length_nil, List.map_cons, List.map_nil, true_imp_iff, false_imp_iff, imp_self, imp_true_iff, not_true_eq_false, not_false_eq_true, List.length_map, Bool.false_eq_true, if_false, Bool.true_eq_false, reduceCtorEq, nos, backs, Sl.keep, decide_true, decide_false, ilist_map, O.lf, List.contains_cons, List.contains_nil, Bool.and_eq_true, beq_self_eq_true, Bool.or_false, Bool.or_true, Bool.true_or, Bool.false_or, and_self, if_pos, gAt_some, ds_fz, Nat.reduceBEq, Nat.reduceEqDiff, ite_self, rangeD_len, numbered_len, Int.toNat_natCast, Nat.reduceAdd, Int.reduceMod, Int.reduceDiv, Int.reduceLT, Int.reduceLE, Int.reduceNeg, Int.reduceMul, Int.reduceAdd, Int.reduceSub, Int.reducePow, Nat.reduceAdd, Nat.reduceLT, Nat.reduceLeDiff, Int.reduceEq, true_or, or_true, Int.reduceToNat, Int.toNat_zero, Int.toNat_one, List.length_set, List.length_append, List.length_singleton, Int.reduceAbs]
      obtain ⟨d10, e10, v, rfl, hv0, hv1⟩ := atI_all (xs := [D.int 0, D.int 100, D.int x4, D.int x5, D.int (50 + x6)]) (fun d => ∃ s : Int, d = .int s ∧ 0 ≤ s ∧ s ≤ 100) hkind (by simpa using kkind) (by
        intro x hx
        simp only [List.mem_cons, List.not_mem_nil, or_false] at hx
        rcases hx with rfl | rfl | rfl | rfl | rfl <;> exact ⟨_, rfl, by omega, by omega⟩)
      simp only [e10, w_some, w_ofIf, w_ofMap, vAt_fz, w_var, w_C, k1_, w_1, k2b_, k2_, w_2, kA_, w_A, kMb_, kM_, w_M, w_aNil, kaCb_, kaC_, w_aCons, w_oNo, koAt_i, w_oAt, kSlc_, kSlb_, kSl_, w_Sl, ktB_, w_tB, bl_bl, ktT_, w_tTr, ktAnd_, w_tAnd, ktOr_, w_tOr, ktNot_, w_tNot, w_tYes, kIf_, w_If, kAnd_b, kOr_b, w_And, w_Or, ktL_, kbL_, kbF_, lentT_o, lentT_f, lentB_o, lentB_f, w_tBor, w_Bor, flat_int, flat_bl, flat_str, flat_non, kS_nx, kS_bk, kS_ct, kS_rt, w_Seq, kJ_s, w_J, w_Nx, w_Bk, w_Ct, kSet_, w_Set, kAugb_, kAugc_, kAug_, w_Aug, kParb_, kPar_, w_Par, gAt_some, kAsg_, w_Asg, kDrop_, w_Drop, kRet_, w_Ret, w_RetN, kIfS_, w_IfS, kApp_, kApp2_, appAt_, w_App, kPut_, putAt_, kPut2_, kPut3_, w_Put, w_Frz, frz_eq, frz1_ow, frz1_fz, kSetO_, w_SetO, kUp_, w_Up, kO_, w_O, dAt_, kFz_, w_Fz, rAt_ow, kRetO_, w_RetO, fEnd_rt, fEnd_nx, w_Fn, w_noEx, w_arNil, karb_, kar_, w_arCons, kasb_, kas_, w_arSlot, callAt_, kBack_, kCall_, w_Call, pull_nil, pull_fz, pull_sl, pull1_ow, push_nil, push_fz, push_sl, push1_ow, outs_nil, outs_f, outs_o, gN_ap, gTp_ap, gsNil_ap, gsCons_ap, kFor_, w_For, kiR_, w_iR, kiS_l, kiS_t, kiE_l, kiE_t, kiC_s, w_iC, w_iS, w_iE, kRnd_nx, kRnd_ct, kRnd_bk, kRnd_rt, kLcB_, kLcBO_, kLc_, kLcO_, w_Lc, w_LcO, kLcT_, kLcE_, v_add, v_sub, v_mul, v_div, v_mod, v_pow, v_ltA, v_leA, v_gtA, v_geA, v_eqA, v_neA, v_eqAs, v_eqAb, v_plusI, v_max2i, v_min2i, v_one, v_lenL, v_lenT, v_intI, v_tupL, v_tupT, v_lstL, v_lstT, v_sumL, v_sumT, v_maxL, v_minL, u_isN, u_notN, v_isT, v_not, u_neg, v_slL, v_slT, v_ixL, v_ixT, v_r1, v_r2, v_mulW, v_divW, v_gcdI, v_absI, v_sumR, v_foLstT, v_foLstL, v_foLst, v_tupOf, v_lstOf, o_fz, o_ol, o_nil, o_cons, at0, at1, at2, at3, at4, at5, at6, at7, ix_1_0, ix_2_0, ix_2_1, ix_3_0, ix_3_1, ix_3_2, ix_4_0, ix_4_1, ix_4_2, ix_4_3, ix_5_0, ix_5_1, ix_5_2, ix_5_3, ix_5_4, ix_6_0, ix_6_1, ix_6_2, ix_6_3, ix_6_4, ix_6_5, ix_7_0, ix_7_1, ix_7_2, ix_7_3, ix_7_4, ix_7_5, ix_7_6, ix_8_0, ix_8_1, ix_8_2, ix_8_3, ix_8_4, ix_8_5, ix_8_6, ix_8_7, ix_9_0, ix_9_1, ix_9_2, ix_9_3, ix_9_4, ix_9_5, ix_9_6, ix_9_7, ix_9_8, ix_10_0, ix_10_1, ix_10_2, ix_10_3, ix_10_4, ix_10_5, ix_10_6, ix_10_7, ix_10_8, ix_10_9, ix_11_0, ix_11_1, ix_11_2, ix_11_3, ix_11_4, ix_11_5, ix_11_6, ix_11_7, ix_11_8, ix_11_9, ix_11_10, ix_12_0, ix_12_1, ix_12_2, ix_12_3, ix_12_4, ix_12_5, ix_12_6, ix_12_7, ix_12_8, ix_12_9, ix_12_10, ix_12_11, isT_tuple_non, isT_tuple_bl, isT_tuple_int, isT_tuple_str, isT_tuple_tup, isT_tuple_lst, isT_int_non, isT_int_bl, isT_int_int, isT_int_str, isT_int_tup, isT_int_lst, isT_bool_non, isT_bool_bl, isT_bool_int, isT_bool_str, isT_bool_tup, isT_bool_lst, isT_str_non, isT_str_bl, isT_str_int, isT_str_str, isT_str_tup, isT_str_lst, isT_list_non, isT_list_bl, isT_list_int, isT_list_str, isT_list_tup, isT_list_lst, isN_non, isN_bl, isN_int, isN_str, isN_tup, isN_lst, at_ints, sz_iff, big_iff, div_iff, mod_iff, mul_iff, mulW_iff, divW_iff, pow_iff, List.getElem?_cons_succ, List.getElem?_cons_zero, List.set_cons_zero, List.set_cons_succ, List.cons_append, List.nil_append, List.replicate, Option.map_some, Option.bind_some, decide_eq_true_eq, decide_eq_false_iff_not, Option.some.injEq, exists_eq_left', Bool.not_eq_true', Bool.not_eq_false', Bool.not_true, Bool.not_false, Int.not_lt, Int.not_le, true_and, and_true, if_true, List.length_cons, List.length_nil, List.map_cons, List.map_nil, true_imp_iff, false_imp_iff, imp_self, imp_true_iff, not_true_eq_false, not_false_eq_true, List.length_map, Bool.false_eq_true, if_false, Bool.true_eq_false, reduceCtorEq, nos, backs, Sl.keep, decide_true, decide_false, ilist_map, O.lf, List.contains_cons, List.contains_nil, Bool.and_eq_true, beq_self_eq_true, Bool.or_false, Bool.or_true, Bool.true_or, Bool.false_or, and_self, if_pos, gAt_some, ds_fz, Nat.reduceBEq, Nat.reduceEqDiff, ite_self, rangeD_len, numbered_len, Int.toNat_natCast, Nat.reduceAdd, Int.reduceMod, Int.reduceDiv, Int.reduceLT, Int.reduceLE, Int.reduceNeg, Int.reduceMul, Int.reduceAdd, Int.reduceSub, Int.reducePow, Nat.reduceAdd, Nat.reduceLT, Nat.reduceLeDiff, Int.reduceEq, true_or, or_true, Int.reduceToNat, Int.toNat_zero, Int.toNat_one, List.length_set, List.length_append, List.length_singleton, Int.reduceAbs]
      exact ⟨v, o6, rfl, hv0, hv1, ho6, rfl⟩
    · simp only [w_some, w_ofIf, w_ofMap, vAt_fz, w_var, w_C, k1_, w_1, k2b_, k2_, w_2, kA_, w_A, kMb_, kM_, w_M, w_aNil, kaCb_, kaC_, w_aCons, w_oNo, koAt_i, w_oAt, kSlc_, kSlb_, kSl_, w_Sl, ktB_, w_tB, bl_bl, ktT_, w_tTr, ktAnd_, w_tAnd, ktOr_, w_tOr, ktNot_, w_tNot, w_tYes, kIf_, w_If, kAnd_b, kOr_b, w_And, w_Or, ktL_, kbL_, kbF_, lentT_o, lentT_f, lentB_o, lentB_f, w_tBor, w_Bor, flat_int, flat_bl, flat_str, flat_non, kS_nx, kS_bk, kS_ct, kS_rt, w_Seq, kJ_s, w_J, w_Nx, w_Bk, w_Ct, kSet_, w_Set, kAugb_, kAugc_, kAug_, w_Aug, kParb_, kPar_, w_Par, gAt_some, kAsg_, w_Asg, kDrop_, w_Drop, kRet_, w_Ret, w_RetN, kIfS_, w_IfS, kApp_, kApp2_, appAt_, w_App, kPut_, putAt_, kPut2_, kPut3_, w_Put, w_Frz, frz_eq, frz1_ow, frz1_fz, kSetO_, w_SetO, kUp_, w_Up, kO_, w_O, dAt_, kFz_, w_Fz, rAt_ow, kRetO_, w_RetO, fEnd_rt, fEnd_nx, w_Fn, w_noEx, w_arNil, karb_, kar_, w_arCons, kasb_, kas_, w_arSlot, callAt_, kBack_, kCall_, w_Call, pull_nil, pull_fz, pull_sl, pull1_ow, push_nil, push_fz, push_sl, push1_ow, outs_nil, outs_f, outs_o, gN_ap, gTp_ap, gsNil_ap, gsCons_ap, kFor_, w_For, kiR_, w_iR, kiS_l, kiS_t, kiE_l, kiE_t, kiC_s, w_iC, w_iS, w_iE, kRnd_nx, kRnd_ct, kRnd_bk, kRnd_rt, kLcB_, kLcBO_, kLc_, kLcO_, w_Lc, w_LcO, kLcT_, kLcE_, v_add, v_sub, v_mul, v_div, v_mod, v_pow, v_ltA, v_leA, v_gtA, v_geA, v_eqA, v_neA, v_eqAs, v_eqAb, v_plusI, v_max2i, v_min2i, v_one, v_lenL, v_lenT, v_intI, v_tupL, v_tupT, v_lstL, v_lstT, v_sumL, v_sumT, v_maxL, v_minL, u_isN, u_notN, v_isT, v_not, u_neg, v_slL, v_slT, v_ixL, v_ixT, v_r1, v_r2, v_mulW, v_divW, v_gcdI, v_absI, v_sumR, v_foLstT, v_foLstL, v_foLst, v_tupOf, v_lstOf, o_fz, o_ol, o_nil, o_cons, at0, at1, at2, at3, at4, at5, at6, at7, ix_1_0, ix_2_0, ix_2_1, ix_3_0, ix_3_1, ix_3_2, ix_4_0, ix_4_1, ix_4_2, ix_4_3, ix_5_0, ix_5_1, ix_5_2, ix_5_3, ix_5_4, ix_6_0, ix_6_1, ix_6_2, ix_6_3, ix_6_4, ix_6_5, ix_7_0, ix_7_1, ix_7_2, ix_7_3, ix_7_4, ix_7_5, ix_7_6, ix_8_0, ix_8_1, ix_8_2, ix_8_3, ix_8_4, ix_8_5, ix_8_6, ix_8_7, ix_9_0, ix_9_1, ix_9_2, ix_9_3, ix_9_4, ix_9_5, ix_9_6, ix_9_7, ix_9_8, ix_10_0, ix_10_1, ix_10_2, ix_10_3, ix_10_4, ix_10_5, ix_10_6, ix_10_7, ix_10_8, ix_10_9, ix_11_0, ix_11_1, ix_11_2, ix_11_3, ix_11_4, ix_11_5, ix_11_6, ix_11_7, ix_11_8, ix_11_9, ix_11_10, ix_12_0, ix_12_1, ix_12_2, ix_12_3, ix_12_4, ix_12_5, ix_12_6, ix_12_7, ix_12_8, ix_12_9, ix_12_10, ix_12_11, isT_tuple_non, isT_tuple_bl, isT_tuple_int, isT_tuple_str, isT_tuple_tup, isT_tuple_lst, isT_int_non, isT_int_bl, isT_int_int, isT_int_str, isT_int_tup, isT_int_lst, isT_bool_non, isT_bool_bl, isT_bool_int, isT_bool_str, isT_bool_tup, isT_bool_lst, isT_str_non, isT_str_bl, isT_str_int, isT_str_str, isT_str_tup, isT_str_lst, isT_list_non, isT_list_bl, isT_list_int, isT_list_str, isT_list_tup, isT_list_lst, isN_non, isN_bl, isN_int, isN_str, isN_tup, isN_lst, at_ints, sz_iff, big_iff, div_iff, mod_iff, mul_iff, mulW_iff, divW_iff, pow_iff, List.getElem?_cons_succ, List.getElem?_cons_zero, List.set_cons_zero, List.set_cons_succ, List.cons_append, List.nil_append, List.replicate, Option.map_some, Option.bind_some, decide_eq_true_eq, decide_eq_false_iff_not, Option.some.injEq, exists_eq_left', Bool.not_eq_true', Bool.not_eq_false', Bool.not_true, Bool.not_false, Int.not_lt, Int.not_le, true_and, and_true, if_true, List.length_cons, List.length_nil, List.map_cons, List.map_nil, true_imp_iff, false_imp_iff, imp_self, imp_true_iff, not_true_eq_false, not_false_eq_true, List.length_map, Bool.false_eq_true, if_false, Bool.true_eq_false, reduceCtorEq, nos, backs, Sl.keep, decide_true, decide_false, ilist_map, O.lf, List.contains_cons, List.contains_nil, Bool.and_eq_true, beq_self_eq_true, Bool.or_false, Bool.or_true, Bool.true_or, Bool.false_or, and_self, if_pos, gAt_some, ds_fz, Nat.reduceBEq, Nat.reduceEqDiff, ite_self, rangeD_len, numbered_len, Int.toNat_natCast, Nat.reduceAdd, Int.reduceMod, Int.reduceDiv, Int.reduceLT, Int.reduceLE, Int.reduceNeg, Int.reduceMul, Int.reduceAdd, Int.reduceSub, Int.reducePow, Nat.reduceAdd, Nat.reduceLT, Nat.reduceLeDiff, Int.reduceEq, true_or, or_true, Int.reduceToNat, Int.toNat_zero, Int.toNat_one, List.length_set, List.length_append, List.length_singleton, Int.reduceAbs]
      exact ⟨p, o2, rfl, h0, h1, ho2, rfl⟩
end K86
end
section
set_option Elab.async false
set_option linter.all false
set_option maxRecDepth 100000
namespace K86
open PySem L2 DL
theorem plain_cls {xs : List D} (hl : xs.length ≤ 16000000) (h : ∀ x ∈ xs, ∃ p, x = clsD p) : DL.plain 8 (.tup xs) = true := by
  simp only [DL.plain, Bool.and_eq_true, List.all_eq_true, sz_iff]
  refine ⟨fun x hx => ?_, hl⟩
  obtain ⟨p, rfl⟩ := h x hx
  simp [clsD, DL.plain, DL.sizeOk]
theorem lit_items {ps : List (Str × Int)} (hi : Items ps) : oEqA (.lst (ps.map itD)) (.lst (ps.map itD)) = some (.bl true) := by
  refine eqA_lit (n := 3) ?_ (by decide) rfl
  simp only [lit, List.all_eq_true]
  intro x hx
  obtain ⟨p, hp, rfl⟩ := List.mem_map.mp hx
  have := ((hi.w.2 p.1 (List.mem_map_of_mem hp)).2.2).ok
  simp [itD, lit, this]
theorem both_ok {x : D} {ps : List (Str × Int)} {first second : Int} (hi : Items ps) (hx : same2 x (ps.map itD)) (h0 : 0 ≤ first) (h1 : first ≤ second) (h2 : second ≤ 100) : ∃ fs : List (Str × Int), ∃ S L : Nat, fs.Perm ps ∧ m_x_law_classes [.lst (ps.map itD), .int first, .int second] = some (.tup (sortD false ((found fs S L fs.length).map clsD))) ∧ m_classes [x, .int first, .int second] = some (.tup (sortD false ((found fs S L fs.length).map clsD))) := by
  obtain ⟨fs, hp, e1, e2⟩ := fall hi
  have hI := hi.perm hp
  have hl := hI.l
  have hw : wordsOk (fs.map (·.1)) := fun s hs => ((hI.w.2 s hs).2.2).ok
  have hT := (hI.pre_le fs.length).1
  obtain ⟨S, s1, s2⟩ := shortest_ok (fs := fs) (percent := first) (by omega) h0 (by omega)
  obtain ⟨L, l1, l2⟩ := shortest_ok (fs := fs) (percent := second) (by omega) (by omega) h2
  obtain ⟨S', t1, t2⟩ := beginning_ok (fs := fs) (percent := first) (by omega) h0 (by omega) hT
  obtain ⟨L', u1, u2⟩ := beginning_ok (fs := fs) (percent := second) (by omega) (by omega) h2 hT
  rw [short_uniq t2 s2] at t1
  rw [short_uniq u2 l2] at u1
  exact ⟨fs, S, L, hp, law_classes_ok e1 (by omega) hw s1 l1, classes_ok (e2 x hx) (by omega) hw (short_mono hT h1 s2 l2) t1 u1⟩
theorem right_ok {x : D} {ps : List (Str × Int)} {first second : Int} (hi : Items ps) (hx : same2 x (ps.map itD)) (h0 : 0 ≤ first) (h1 : first ≤ second) (h2 : second ≤ 100) : m_x_law_right [x, .lst (ps.map itD), .int first, .int second] = some (.bl true) := by
  obtain ⟨fs, S, L, hp, e1, e2⟩ := both_ok hi hx h0 h1 h2
  have hI := hi.perm hp
  have hl := hI.l
  have hpl : rSame 8 [.tup (sortD false ((found fs S L fs.length).map clsD)), .tup (sortD false ((found fs S L fs.length).map clsD))] = some (.bl true) := same_ok 8 _ (plain_cls (by
    unfold sortD; rw [List.length_mergeSort, List.length_map, found_len]; omega) fun y hy => by
    have hy := (List.mergeSort_perm _ _).mem_iff.mp hy
    obtain ⟨p, _, rfl⟩ := List.mem_map.mp hy
    exact ⟨p, rfl⟩)
  have hL : oList x = some (.lst (ps.map itD)) := by rcases hx with rfl | rfl <;> rfl
  refine w_toP rfl ?_
  unfold δ_x_law_right m_x_law_same
  rw [same_eq]
  simp only [w_some, w_ofIf, w_ofMap, vAt_fz, w_var, w_C, k1_, w_1, k2b_, k2_, w_2, kA_, w_A, kMb_, kM_, w_M, w_aNil, kaCb_, kaC_, w_aCons, w_oNo, koAt_i, w_oAt, kSlc_, kSlb_, kSl_, w_Sl, ktB_, w_tB, bl_bl, ktT_, w_tTr, ktAnd_, w_tAnd, ktOr_, w_tOr, ktNot_, w_tNot, w_tYes, kIf_, w_If, kAnd_b, kOr_b, w_And, w_Or, ktL_, kbL_, kbF_, lentT_o, lentT_f, lentB_o, lentB_f, w_tBor, w_Bor, flat_int, flat_bl, flat_str, flat_non, kS_nx, kS_bk, kS_ct, kS_rt, w_Seq, kJ_s, w_J, w_Nx, w_Bk, w_Ct, kSet_, w_Set, kAugb_, kAugc_, kAug_, w_Aug, kParb_, kPar_, w_Par, gAt_some, kAsg_, w_Asg, kDrop_, w_Drop, kRet_, w_Ret, w_RetN, kIfS_, w_IfS, kApp_, kApp2_, appAt_, w_App, kPut_, putAt_, kPut2_, kPut3_, w_Put, w_Frz, frz_eq, frz1_ow, frz1_fz, kSetO_, w_SetO, kUp_, w_Up, kO_, w_O, dAt_, kFz_, w_Fz, rAt_ow, kRetO_, w_RetO, fEnd_rt, fEnd_nx, w_Fn, w_noEx, w_arNil, karb_, kar_, w_arCons, kasb_, kas_, w_arSlot, callAt_, kBack_, kCall_, w_Call, pull_nil, pull_fz, pull_sl, pull1_ow, push_nil, push_fz, push_sl, push1_ow, outs_nil, outs_f, outs_o, gN_ap, gTp_ap, gsNil_ap, gsCons_ap, kFor_, w_For, kiR_, w_iR, kiS_l, kiS_t, kiE_l, kiE_t, kiC_s, w_iC, w_iS, w_iE, kRnd_nx, kRnd_ct, kRnd_bk, kRnd_rt, kLcB_, kLcBO_, kLc_, kLcO_, w_Lc, w_LcO, kLcT_, kLcE_, v_add, v_sub, v_mul, v_div, v_mod, v_pow, v_ltA, v_leA, v_gtA, v_geA, v_eqA, v_neA, v_eqAs, v_eqAb, v_plusI, v_max2i, v_min2i, v_one, v_lenL, v_lenT, v_intI, v_tupL, v_tupT, v_lstL, v_lstT, v_sumL, v_sumT, v_maxL, v_minL, u_isN, u_notN, v_isT, v_not, u_neg, v_slL, v_slT, v_ixL, v_ixT, v_r1, v_r2, v_mulW, v_divW, v_gcdI, v_absI, v_sumR, v_foLstT, v_foLstL, v_foLst, v_tupOf, v_lstOf, o_fz, o_ol, o_nil, o_cons, at0, at1, at2, at3, at4, at5, at6, at7, ix_1_0, ix_2_0, ix_2_1, ix_3_0, ix_3_1, ix_3_2, ix_4_0, ix_4_1, ix_4_2, ix_4_3, ix_5_0, ix_5_1, ix_5_2, ix_5_3, ix_5_4, ix_6_0, ix_6_1, ix_6_2, ix_6_3, ix_6_4, ix_6_5, ix_7_0, ix_7_1, ix_7_2, ix_7_3, ix_7_4, ix_7_5, ix_7_6, ix_8_0, ix_8_1, ix_8_2, ix_8_3, ix_8_4, ix_8_5, ix_8_6, ix_8_7, ix_9_0, ix_9_1, ix_9_2, ix_9_3, ix_9_4, ix_9_5, ix_9_6, ix_9_7, ix_9_8, ix_10_0, ix_10_1, ix_10_2, ix_10_3, ix_10_4, ix_10_5, ix_10_6, ix_10_7, ix_10_8, ix_10_9, ix_11_0, ix_11_1, ix_11_2, ix_11_3, ix_11_4, ix_11_5, ix_11_6, ix_11_7, ix_11_8, ix_11_9, ix_11_10, ix_12_0, ix_12_1, ix_12_2, ix_12_3, ix_12_4, ix_12_5, ix_12_6, ix_12_7, ix_12_8, ix_12_9, ix_12_10, ix_12_11, isT_tuple_non, isT_tuple_bl, isT_tuple_int, isT_tuple_str, isT_tuple_tup, isT_tuple_lst, isT_int_non, isT_int_bl, isT_int_int, isT_int_str, isT_int_tup, isT_int_lst, isT_bool_non, isT_bool_bl, isT_bool_int, isT_bool_str, isT_bool_tup, isT_bool_lst, isT_str_non, isT_str_bl, isT_str_int, isT_str_str, isT_str_tup, isT_str_lst, isT_list_non, isT_list_bl, isT_list_int, isT_list_str, isT_list_tup, isT_list_lst, isN_non, isN_bl, isN_int, isN_str, isN_tup, isN_lst, at_ints, sz_iff, big_iff, div_iff, mod_iff, mul_iff, mulW_iff, divW_iff, pow_iff, List.getElem?_cons_succ, List.getElem?_cons_zero, List.set_cons_zero, List.set_cons_succ, List.cons_append, List.nil_append, List.replicate, Option.map_some, Option.bind_some, decide_eq_true_eq, decide_eq_false_iff_not, Option.some.injEq, exists_eq_left', Bool.not_eq_true', Bool.not_eq_false', Bool.not_true, Bool.not_false, Int.not_lt, Int.not_le, true_and, and_true, if_true, List.length_cons, List.length_nil, List.map_cons, List.map_nil, true_imp_iff, false_imp_iff, imp_self, imp_true_iff, not_true_eq_false, not_false_eq_true, List.length_map, Bool.false_eq_true, if_false, Bool.true_eq_false, reduceCtorEq, nos, backs, Sl.keep, decide_true, decide_false, ilist_map, O.lf, List.contains_cons, List.contains_nil, Bool.and_eq_true, beq_self_eq_true, Bool.or_false, Bool.or_true, Bool.true_or, Bool.false_or, and_self, if_pos, gAt_some, ds_fz, Nat.reduceBEq, Nat.reduceEqDiff, ite_self, rangeD_len, numbered_len, Int.toNat_natCast, Nat.reduceAdd, Int.reduceMod, Int.reduceDiv, Int.reduceLT, Int.reduceLE, Int.reduceNeg, Int.reduceMul, Int.reduceAdd, Int.reduceSub, Int.reducePow, Nat.reduceAdd, Nat.reduceLT, Nat.reduceLeDiff, Int.reduceEq, true_or, or_true, Int.reduceToNat, Int.toNat_zero, Int.toNat_one, List.length_set, List.length_append, List.length_singleton, Int.reduceAbs, e1, e2, hpl, hL, lit_items hi]
theorem lf_map {xs : List D} : O.lf xs = .ol (xs.map O.fz) := rfl
theorem truth (ns : List Int) (hn : ns.length ≤ 63) : m_law [.lst (ns.map D.int)] = some (.bl true) := by
  refine w_toP rfl ?_
  unfold δ_law
  simp only [draw_eq]
  simp only [w_some, w_ofIf, w_ofMap, vAt_fz, w_var, w_C, k1_, w_1, k2b_, k2_, w_2, kA_, w_A, kMb_, kM_, w_M, w_aNil, kaCb_, kaC_, w_aCons, w_oNo, koAt_i, w_oAt, kSlc_, kSlb_, kSl_, w_Sl, ktB_, w_tB, bl_bl, ktT_, w_tTr, ktAnd_, w_tAnd, ktOr_, w_tOr, ktNot_, w_tNot, w_tYes, kIf_, w_If, kAnd_b, kOr_b, w_And, w_Or, ktL_, kbL_, kbF_, lentT_o, lentT_f, lentB_o, lentB_f, w_tBor, w_Bor, flat_int, flat_bl, flat_str, flat_non, kS_nx, kS_bk, kS_ct, kS_rt, w_Seq, kJ_s, w_J, w_Nx, w_Bk, w_Ct, kSet_, w_Set, kAugb_, kAugc_, kAug_, w_Aug, kParb_, kPar_, w_Par, gAt_some, kAsg_, w_Asg, kDrop_, w_Drop, kRet_, w_Ret, w_RetN, kIfS_, w_IfS, kApp_, kApp2_, appAt_, w_App, kPut_, putAt_, kPut2_, kPut3_, w_Put, w_Frz, frz_eq, frz1_ow, frz1_fz, kSetO_, w_SetO, kUp_, w_Up, kO_, w_O, dAt_, kFz_, w_Fz, rAt_ow, kRetO_, w_RetO, fEnd_rt, fEnd_nx, w_Fn, w_noEx, w_arNil, karb_, kar_, w_arCons, kasb_, kas_, w_arSlot, callAt_, kBack_, kCall_, w_Call, pull_nil, pull_fz, pull_sl, pull1_ow, push_nil, push_fz, push_sl, push1_ow, outs_nil, outs_f, outs_o, gN_ap, gTp_ap, gsNil_ap, gsCons_ap, kFor_, w_For, kiR_, w_iR, kiS_l, kiS_t, kiE_l, kiE_t, kiC_s, w_iC, w_iS, w_iE, kRnd_nx, kRnd_ct, kRnd_bk, kRnd_rt, kLcB_, kLcBO_, kLc_, kLcO_, w_Lc, w_LcO, kLcT_, kLcE_, v_add, v_sub, v_mul, v_div, v_mod, v_pow, v_ltA, v_leA, v_gtA, v_geA, v_eqA, v_neA, v_eqAs, v_eqAb, v_plusI, v_max2i, v_min2i, v_one, v_lenL, v_lenT, v_intI, v_tupL, v_tupT, v_lstL, v_lstT, v_sumL, v_sumT, v_maxL, v_minL, u_isN, u_notN, v_isT, v_not, u_neg, v_slL, v_slT, v_ixL, v_ixT, v_r1, v_r2, v_mulW, v_divW, v_gcdI, v_absI, v_sumR, v_foLstT, v_foLstL, v_foLst, v_tupOf, v_lstOf, o_fz, o_ol, o_nil, o_cons, at0, at1, at2, at3, at4, at5, at6, at7, ix_1_0, ix_2_0, ix_2_1, ix_3_0, ix_3_1, ix_3_2, ix_4_0, ix_4_1, ix_4_2, ix_4_3, ix_5_0, ix_5_1, ix_5_2, ix_5_3, ix_5_4, ix_6_0, ix_6_1, ix_6_2, ix_6_3, ix_6_4, ix_6_5, ix_7_0, ix_7_1, ix_7_2, ix_7_3, ix_7_4, ix_7_5, ix_7_6, ix_8_0, ix_8_1, ix_8_2, ix_8_3, ix_8_4, ix_8_5, ix_8_6, ix_8_7, ix_9_0, ix_9_1, ix_9_2, ix_9_3, ix_9_4, ix_9_5, ix_9_6, ix_9_7, ix_9_8, ix_10_0, ix_10_1, ix_10_2, ix_10_3, ix_10_4, ix_10_5, ix_10_6, ix_10_7, ix_10_8, ix_10_9, ix_11_0, ix_11_1, ix_11_2, ix_11_3, ix_11_4, ix_11_5, ix_11_6, ix_11_7, ix_11_8, ix_11_9, ix_11_10, ix_12_0, ix_12_1, ix_12_2, ix_12_3, ix_12_4, ix_12_5, ix_12_6, ix_12_7, ix_12_8, ix_12_9, ix_12_10, ix_12_11, isT_tuple_non, isT_tuple_bl, isT_tuple_int, isT_tuple_str, isT_tuple_tup, isT_tuple_lst, isT_int_non, isT_int_bl, isT_int_int, isT_int_str, isT_int_tup, isT_int_lst, isT_bool_non, isT_bool_bl, isT_bool_int, isT_bool_str, isT_bool_tup, isT_bool_lst, isT_str_non, isT_str_bl, isT_str_int, isT_str_str, isT_str_tup, isT_str_lst, isT_list_non, isT_list_bl, isT_list_int, isT_list_str, isT_list_tup, isT_list_lst, isN_non, isN_bl, isN_int, isN_str, isN_tup, isN_lst, at_ints, sz_iff, big_iff, div_iff, mod_iff, mul_iff, mulW_iff, divW_iff, pow_iff, List.getElem?_cons_succ, List.getElem?_cons_zero, List.set_cons_zero, List.set_cons_succ, List.cons_append, List.nil_append, List.replicate, Option.map_some, Option.bind_some, decide_eq_true_eq, decide_eq_false_iff_not, Option.some.injEq, exists_eq_left', Bool.not_eq_true', Bool.not_eq_false', Bool.not_true, Bool.not_false, Int.not_lt, Int.not_le, true_and, and_true, if_true, List.length_cons, List.length_nil, List.map_cons, List.map_nil, true_imp_iff, false_imp_iff, imp_self, imp_true_iff, not_true_eq_false, not_false_eq_true, List.length_map, Bool.false_eq_true, if_false, Bool.true_eq_false, reduceCtorEq, nos, backs, Sl.keep, decide_true, decide_false, ilist_map, O.lf, List.contains_cons, List.contains_nil, Bool.and_eq_true, beq_self_eq_true, Bool.or_false, Bool.or_true, Bool.true_or, Bool.false_or, and_self, if_pos, gAt_some, ds_fz, Nat.reduceBEq, Nat.reduceEqDiff, ite_self, rangeD_len, numbered_len, Int.toNat_natCast, Nat.reduceAdd, Int.reduceMod, Int.reduceDiv, Int.reduceLT, Int.reduceLE, Int.reduceNeg, Int.reduceMul, Int.reduceAdd, Int.reduceSub, Int.reducePow, Nat.reduceAdd, Nat.reduceLT, Nat.reduceLeDiff, Int.reduceEq, true_or, or_true, Int.reduceToNat, Int.toNat_zero, Int.toNat_one, List.length_set, List.length_append, List.length_singleton, Int.reduceAbs]
  refine w_loopN (fun k Γ => ∃ o s2 s3 s4 s5 s6 s7 s8 s9 s10 s11, FeedOk o ∧ Γ = [Sl.fz (.lst (ns.map D.int)), .ow none o, s2, s3, s4, s5, s6, s7, s8, s9, s10, s11, .no]) ⟨_, _, _, _, _, _, _, _, _, _, _, ⟨ns, 0, 0, 7, rfl, by decide, by decide, by decide⟩, rfl⟩ ?_ ?_
  · rintro k d Γ hd ⟨o, s2, s3, s4, s5, s6, s7, s8, s9, s10, s11, ho, rfl⟩
    simp only [w_some, w_ofIf, w_ofMap, vAt_fz, w_var, w_C, k1_, w_1, k2b_, k2_, w_2, kA_, w_A, kMb_, kM_, w_M, w_aNil, kaCb_, kaC_, w_aCons, w_oNo, koAt_i, w_oAt, kSlc_, kSlb_, kSl_, w_Sl, ktB_, w_tB, bl_bl, ktT_, w_tTr, ktAnd_, w_tAnd, ktOr_, w_tOr, ktNot_, w_tNot, w_tYes, kIf_, w_If, kAnd_b, kOr_b, w_And, w_Or, ktL_, kbL_, kbF_, lentT_o, lentT_f, lentB_o, lentB_f, w_tBor, w_Bor, flat_int, flat_bl, flat_str, flat_non, kS_nx, kS_bk, kS_ct, kS_rt, w_Seq, kJ_s, w_J, w_Nx, w_Bk, w_Ct, kSet_, w_Set, kAugb_, kAugc_, kAug_, w_Aug, kParb_, kPar_, w_Par, gAt_some, kAsg_, w_Asg, kDrop_, w_Drop, kRet_, w_Ret, w_RetN, kIfS_, w_IfS, kApp_, kApp2_, appAt_, w_App, kPut_, putAt_, kPut2_, kPut3_, w_Put, w_Frz, frz_eq, frz1_ow, frz1_fz, kSetO_, w_SetO, kUp_, w_Up, kO_, w_O, dAt_, kFz_, w_Fz, rAt_ow, kRetO_, w_RetO, fEnd_rt, fEnd_nx, w_Fn, w_noEx, w_arNil, karb_, kar_, w_arCons, kasb_, kas_, w_arSlot, callAt_, kBack_, kCall_, w_Call, pull_nil, pull_fz, pull_sl, pull1_ow, push_nil, push_fz, push_sl, push1_ow, outs_nil, outs_f, outs_o, gN_ap, gTp_ap, gsNil_ap, gsCons_ap, kFor_, w_For, kiR_, w_iR, kiS_l, kiS_t, kiE_l, kiE_t, kiC_s, w_iC, w_iS, w_iE, kRnd_nx, kRnd_ct, kRnd_bk, kRnd_rt, kLcB_, kLcBO_, kLc_, kLcO_, w_Lc, w_LcO, kLcT_, kLcE_, v_add, v_sub, v_mul, v_div, v_mod, v_pow, v_ltA, v_leA, v_gtA, v_geA, v_eqA, v_neA, v_eqAs, v_eqAb, v_plusI, v_max2i, v_min2i, v_one, v_lenL, v_lenT, v_intI, v_tupL, v_tupT, v_lstL, v_lstT, v_sumL, v_sumT, v_maxL, v_minL, u_isN, u_notN, v_isT, v_not, u_neg, v_slL, v_slT, v_ixL, v_ixT, v_r1, v_r2, v_mulW, v_divW, v_gcdI, v_absI, v_sumR, v_foLstT, v_foLstL, v_foLst, v_tupOf, v_lstOf, o_fz, o_ol, o_nil, o_cons, at0, at1, at2, at3, at4, at5, at6, at7, ix_1_0, ix_2_0, ix_2_1, ix_3_0, ix_3_1, ix_3_2, ix_4_0, ix_4_1, ix_4_2, ix_4_3, ix_5_0, ix_5_1, ix_5_2, ix_5_3, ix_5_4, ix_6_0, ix_6_1, ix_6_2, ix_6_3, ix_6_4, ix_6_5, ix_7_0, ix_7_1, ix_7_2, ix_7_3, ix_7_4, ix_7_5, ix_7_6, ix_8_0, ix_8_1, ix_8_2, ix_8_3, ix_8_4, ix_8_5, ix_8_6, ix_8_7, ix_9_0, ix_9_1, ix_9_2, ix_9_3, ix_9_4, ix_9_5, ix_9_6, ix_9_7, ix_9_8, ix_10_0, ix_10_1, ix_10_2, ix_10_3, ix_10_4, ix_10_5, ix_10_6, ix_10_7, ix_10_8, ix_10_9, ix_11_0, ix_11_1, ix_11_2, ix_11_3, ix_11_4, ix_11_5, ix_11_6, ix_11_7, ix_11_8, ix_11_9, ix_11_10, ix_12_0, ix_12_1, ix_12_2, ix_12_3, ix_12_4, ix_12_5, ix_12_6, ix_12_7, ix_12_8, ix_12_9, ix_12_10, ix_12_11, isT_tuple_non, isT_tuple_bl, isT_tuple_int, isT_tuple_str, isT_tuple_tup, isT_tuple_lst, isT_int_non, isT_int_bl, isT_int_int, isT_int_str, isT_int_tup, isT_int_lst, isT_bool_non, isT_bool_bl, isT_bool_int, isT_bool_str, isT_bool_tup, isT_bool_lst, isT_str_non, isT_str_bl, isT_str_int, isT_str_str, isT_str_tup, isT_str_lst, isT_list_non, isT_list_bl, isT_list_int, isT_list_str, isT_list_tup, isT_list_lst, isN_non, isN_bl, isN_int, isN_str, isN_tup, isN_lst, at_ints, sz_iff, big_iff, div_iff, mod_iff, mul_iff, mulW_iff, divW_iff, pow_iff, List.getElem?_cons_succ, List.getElem?_cons_zero, List.set_cons_zero, List.set_cons_succ, List.cons_append, List.nil_append, List.replicate, Option.map_some, Option.bind_some, decide_eq_true_eq, decide_eq_false_iff_not, Option.some.injEq, exists_eq_left', Bool.not_eq_true', Bool.not_eq_false', Bool.not_true, Bool.not_false, Int.not_lt, Int.not_le, true_and, and_true, if_true, List.length_cons, List.length_nil, List.map_cons, List.map_nil, true_imp_iff, false_imp_iff, imp_self, imp_true_iff, not_true_eq_false, not_false_eq_true, List.length_map, Bool.false_eq_true, if_false, Bool.true_eq_false, reduceCtorEq, nos, backs, Sl.keep, decide_true, decide_false, ilist_map, O.lf, List.contains_cons, List.contains_nil, Bool.and_eq_true, beq_self_eq_true, Bool.or_false, Bool.or_true, Bool.true_or, Bool.false_or, and_self, if_pos, gAt_some, ds_fz, Nat.reduceBEq, Nat.reduceEqDiff, ite_self, rangeD_len, numbered_len, Int.toNat_natCast, Nat.reduceAdd, Int.reduceMod, Int.reduceDiv, Int.reduceLT, Int.reduceLE, Int.reduceNeg, Int.reduceMul, Int.reduceAdd, Int.reduceSub, Int.reducePow, Nat.reduceAdd, Nat.reduceLT, Nat.reduceLeDiff, Int.reduceEq, true_or, or_true, Int.reduceToNat, Int.toNat_zero, Int.toNat_one, List.length_set, List.length_append, List.length_singleton, Int.reduceAbs]
    refine w_okw (items_ok (m := 60) ho (by decide) (by decide)) ?_
    rintro _ _ ⟨ps, o1, rfl, hI, hl, ho1, rfl⟩
    simp only [w_some, w_ofIf, w_ofMap, vAt_fz, w_var, w_C, k1_, w_1, k2b_, k2_, w_2, kA_, w_A, kMb_, kM_, w_M, w_aNil, kaCb_, kaC_, w_aCons, w_oNo, koAt_i, w_oAt, kSlc_, kSlb_, kSl_, w_Sl, ktB_, w_tB, bl_bl, ktT_, w_tTr, ktAnd_, w_tAnd, ktOr_, w_tOr, ktNot_, w_tNot, w_tYes, kIf_, w_If, kAnd_b, kOr_b, w_And, w_Or, ktL_, kbL_, kbF_, lentT_o, lentT_f, lentB_o, lentB_f, w_tBor, w_Bor, flat_int, flat_bl, flat_str, flat_non, kS_nx, kS_bk, kS_ct, kS_rt, w_Seq, kJ_s, w_J, w_Nx, w_Bk, w_Ct, kSet_, w_Set, kAugb_, kAugc_, kAug_, w_Aug, kParb_, kPar_, w_Par, gAt_some, kAsg_, w_Asg, kDrop_, w_Drop, kRet_, w_Ret, w_RetN, kIfS_, w_IfS, kApp_, kApp2_, appAt_, w_App, kPut_, putAt_, kPut2_, kPut3_, w_Put, w_Frz, frz_eq, frz1_ow, frz1_fz, kSetO_, w_SetO, kUp_, w_Up, kO_, w_O, dAt_, kFz_, w_Fz, rAt_ow, kRetO_, w_RetO, fEnd_rt, fEnd_nx, w_Fn, w_noEx, w_arNil, karb_, kar_, w_arCons, kasb_, kas_, w_arSlot, callAt_, kBack_, kCall_, w_Call, pull_nil, pull_fz, pull_sl, pull1_ow, push_nil, push_fz, push_sl, push1_ow, outs_nil, outs_f, outs_o, gN_ap, gTp_ap, gsNil_ap, gsCons_ap, kFor_, w_For, kiR_, w_iR, kiS_l, kiS_t, kiE_l, kiE_t, kiC_s, w_iC, w_iS, w_iE, kRnd_nx, kRnd_ct, kRnd_bk, kRnd_rt, kLcB_, kLcBO_, kLc_, kLcO_, w_Lc, w_LcO, kLcT_, kLcE_, v_add, v_sub, v_mul, v_div, v_mod, v_pow, v_ltA, v_leA, v_gtA, v_geA, v_eqA, v_neA, v_eqAs, v_eqAb, v_plusI, v_max2i, v_min2i, v_one, v_lenL, v_lenT, v_intI, v_tupL, v_tupT, v_lstL, v_lstT, v_sumL, v_sumT, v_maxL, v_minL, u_isN, u_notN, v_isT, v_not, u_neg, v_slL, v_slT, v_ixL, v_ixT, v_r1, v_r2, v_mulW, v_divW, v_gcdI, v_absI, v_sumR, v_foLstT, v_foLstL, v_foLst, v_tupOf, v_lstOf, o_fz, o_ol, o_nil, o_cons, at0, at1, at2, at3, at4, at5, at6, at7, ix_1_0, ix_2_0, ix_2_1, ix_3_0, ix_3_1, ix_3_2, ix_4_0, ix_4_1, ix_4_2, ix_4_3, ix_5_0, ix_5_1, ix_5_2, ix_5_3, ix_5_4, ix_6_0, ix_6_1, ix_6_2, ix_6_3, ix_6_4, ix_6_5, ix_7_0, ix_7_1, ix_7_2, ix_7_3, ix_7_4, ix_7_5, ix_7_6, ix_8_0, ix_8_1, ix_8_2, ix_8_3, ix_8_4, ix_8_5, ix_8_6, ix_8_7, ix_9_0, ix_9_1, ix_9_2, ix_9_3, ix_9_4, ix_9_5, ix_9_6, ix_9_7, ix_9_8, ix_10_0, ix_10_1, ix_10_2, ix_10_3, ix_10_4, ix_10_5, ix_10_6, ix_10_7, ix_10_8, ix_10_9, ix_11_0, ix_11_1, ix_11_2, ix_11_3, ix_11_4, ix_11_5, ix_11_6, ix_11_7, ix_11_8, ix_11_9, ix_11_10, ix_12_0, ix_12_1, ix_12_2, ix_12_3, ix_12_4, ix_12_5, ix_12_6, ix_12_7, ix_12_8, ix_12_9, ix_12_10, ix_12_11, isT_tuple_non, isT_tuple_bl, isT_tuple_int, isT_tuple_str, isT_tuple_tup, isT_tuple_lst, isT_int_non, isT_int_bl, isT_int_int, isT_int_str, isT_int_tup, isT_int_lst, isT_bool_non, isT_bool_bl, isT_bool_int, isT_bool_str, isT_bool_tup, isT_bool_lst, isT_str_non, isT_str_bl, isT_str_int, isT_str_str, isT_str_tup, isT_str_lst, isT_list_non, isT_list_bl, isT_list_int, isT_list_str, isT_list_tup, isT_list_lst, isN_non, isN_bl, isN_int, isN_str, isN_tup, isN_lst, at_ints, sz_iff, big_iff, div_iff, mod_iff, mul_iff, mulW_iff, divW_iff, pow_iff, List.getElem?_cons_succ, List.getElem?_cons_zero, List.set_cons_zero, List.set_cons_succ, List.cons_append, List.nil_append, List.replicate, Option.map_some, Option.bind_some, decide_eq_true_eq, decide_eq_false_iff_not, Option.some.injEq, exists_eq_left', Bool.not_eq_true', Bool.not_eq_false', Bool.not_true, Bool.not_false, Int.not_lt, Int.not_le, true_and, and_true, if_true, List.length_cons, List.length_nil, List.map_cons, List.map_nil, true_imp_iff, false_imp_iff, imp_self, imp_true_iff, not_true_eq_false, not_false_eq_true, List.length_map, Bool.false_eq_true, if_false, Bool.true_eq_false, reduceCtorEq, nos, backs, Sl.keep, decide_true, decide_false, ilist_map, O.lf, List.contains_cons, List.contains_nil, Bool.and_eq_true, beq_self_eq_true, Bool.or_false, Bool.or_true, Bool.true_or, Bool.false_or, and_self, if_pos, gAt_some, ds_fz, Nat.reduceBEq, Nat.reduceEqDiff, ite_self, rangeD_len, numbered_len, Int.toNat_natCast, Nat.reduceAdd, Int.reduceMod, Int.reduceDiv, Int.reduceLT, Int.reduceLE, Int.reduceNeg, Int.reduceMul, Int.reduceAdd, Int.reduceSub, Int.reducePow, Nat.reduceAdd, Nat.reduceLT, Nat.reduceLeDiff, Int.reduceEq, true_or, or_true, Int.reduceToNat, Int.toNat_zero, Int.toNat_one, List.length_set, List.length_append, List.length_singleton, Int.reduceAbs]
    refine w_okw (percent_ok ho1 hI) ?_
    rintro _ _ ⟨p1, o2, rfl, h10, h11, ho2, rfl⟩
    simp only [w_some, w_ofIf, w_ofMap, vAt_fz, w_var, w_C, k1_, w_1, k2b_, k2_, w_2, kA_, w_A, kMb_, kM_, w_M, w_aNil, kaCb_, kaC_, w_aCons, w_oNo, koAt_i, w_oAt, kSlc_, kSlb_, kSl_, w_Sl, ktB_, w_tB, bl_bl, ktT_, w_tTr, ktAnd_, w_tAnd, ktOr_, w_tOr, ktNot_, w_tNot, w_tYes, kIf_, w_If, kAnd_b, kOr_b, w_And, w_Or, ktL_, kbL_, kbF_, lentT_o, lentT_f, lentB_o, lentB_f, w_tBor, w_Bor, flat_int, flat_bl, flat_str, flat_non, kS_nx, kS_bk, kS_ct, kS_rt, w_Seq, kJ_s, w_J, w_Nx, w_Bk, w_Ct, kSet_, w_Set, kAugb_, kAugc_, kAug_, w_Aug, kParb_, kPar_, w_Par, gAt_some, kAsg_, w_Asg, kDrop_, w_Drop, kRet_, w_Ret, w_RetN, kIfS_, w_IfS, kApp_, kApp2_, appAt_, w_App, kPut_, putAt_, kPut2_, kPut3_, w_Put, w_Frz, frz_eq, frz1_ow, frz1_fz, kSetO_, w_SetO, kUp_, w_Up, kO_, w_O, dAt_, kFz_, w_Fz, rAt_ow, kRetO_, w_RetO, fEnd_rt, fEnd_nx, w_Fn, w_noEx, w_arNil, karb_, kar_, w_arCons, kasb_, kas_, w_arSlot, callAt_, kBack_, kCall_, w_Call, pull_nil, pull_fz, pull_sl, pull1_ow, push_nil, push_fz, push_sl, push1_ow, outs_nil, outs_f, outs_o, gN_ap, gTp_ap, gsNil_ap, gsCons_ap, kFor_, w_For, kiR_, w_iR, kiS_l, kiS_t, kiE_l, kiE_t, kiC_s, w_iC, w_iS, w_iE, kRnd_nx, kRnd_ct, kRnd_bk, kRnd_rt, kLcB_, kLcBO_, kLc_, kLcO_, w_Lc, w_LcO, kLcT_, kLcE_, v_add, v_sub, v_mul, v_div, v_mod, v_pow, v_ltA, v_leA, v_gtA, v_geA, v_eqA, v_neA, v_eqAs, v_eqAb, v_plusI, v_max2i, v_min2i, v_one, v_lenL, v_lenT, v_intI, v_tupL, v_tupT, v_lstL, v_lstT, v_sumL, v_sumT, v_maxL, v_minL, u_isN, u_notN, v_isT, v_not, u_neg, v_slL, v_slT, v_ixL, v_ixT, v_r1, v_r2, v_mulW, v_divW, v_gcdI, v_absI, v_sumR, v_foLstT, v_foLstL, v_foLst, v_tupOf, v_lstOf, o_fz, o_ol, o_nil, o_cons, at0, at1, at2, at3, at4, at5, at6, at7, ix_1_0, ix_2_0, ix_2_1, ix_3_0, ix_3_1, ix_3_2, ix_4_0, ix_4_1, ix_4_2, ix_4_3, ix_5_0, ix_5_1, ix_5_2, ix_5_3, ix_5_4, ix_6_0, ix_6_1, ix_6_2, ix_6_3, ix_6_4, ix_6_5, ix_7_0, ix_7_1, ix_7_2, ix_7_3, ix_7_4, ix_7_5, ix_7_6, ix_8_0, ix_8_1, ix_8_2, ix_8_3, ix_8_4, ix_8_5, ix_8_6, ix_8_7, ix_9_0, ix_9_1, ix_9_2, ix_9_3, ix_9_4, ix_9_5, ix_9_6, ix_9_7, ix_9_8, ix_10_0, ix_10_1, ix_10_2, ix_10_3, ix_10_4, ix_10_5, ix_10_6, ix_10_7, ix_10_8, ix_10_9, ix_11_0, ix_11_1, ix_11_2, ix_11_3, ix_11_4, ix_11_5, ix_11_6, ix_11_7, ix_11_8, ix_11_9, ix_11_10, ix_12_0, ix_12_1, ix_12_2, ix_12_3, ix_12_4, ix_12_5, ix_12_6, ix_12_7, ix_12_8, ix_12_9, ix_12_10, ix_12_11, isT_tuple_non, isT_tuple_bl, isT_tuple_int, isT_tuple_str, isT_tuple_tup, isT_tuple_lst, isT_int_non, isT_int_bl, isT_int_int, isT_int_str, isT_int_tup, isT_int_lst, isT_bool_non, isT_bool_bl, isT_bool_int, isT_bool_str, isT_bool_tup, isT_bool_lst, isT_str_non, isT_str_bl, isT_str_int, isT_str_str, isT_str_tup, isT_str_lst, isT_list_non, isT_list_bl, isT_list_int, isT_list_str, isT_list_tup, isT_list_lst, isN_non, isN_bl, isN_int, isN_str, isN_tup, isN_lst, at_ints, sz_iff, big_iff, div_iff, mod_iff, mul_iff, mulW_iff, divW_iff, pow_iff, List.getElem?_cons_succ, List.getElem?_cons_zero, List.set_cons_zero, List.set_cons_succ, List.cons_append, List.nil_append, List.replicate, Option.map_some, Option.bind_some, decide_eq_true_eq, decide_eq_false_iff_not, Option.some.injEq, exists_eq_left', Bool.not_eq_true', Bool.not_eq_false', Bool.not_true, Bool.not_false, Int.not_lt, Int.not_le, true_and, and_true, if_true, List.length_cons, List.length_nil, List.map_cons, List.map_nil, true_imp_iff, false_imp_iff, imp_self, imp_true_iff, not_true_eq_false, not_false_eq_true, List.length_map, Bool.false_eq_true, if_false, Bool.true_eq_false, reduceCtorEq, nos, backs, Sl.keep, decide_true, decide_false, ilist_map, O.lf, List.contains_cons, List.contains_nil, Bool.and_eq_true, beq_self_eq_true, Bool.or_false, Bool.or_true, Bool.true_or, Bool.false_or, and_self, if_pos, gAt_some, ds_fz, Nat.reduceBEq, Nat.reduceEqDiff, ite_self, rangeD_len, numbered_len, Int.toNat_natCast, Nat.reduceAdd, Int.reduceMod, Int.reduceDiv, Int.reduceLT, Int.reduceLE, Int.reduceNeg, Int.reduceMul, Int.reduceAdd, Int.reduceSub, Int.reducePow, Nat.reduceAdd, Nat.reduceLT, Nat.reduceLeDiff, Int.reduceEq, true_or, or_true, Int.reduceToNat, Int.toNat_zero, Int.toNat_one, List.length_set, List.length_append, List.length_singleton, Int.reduceAbs]
    refine w_okw (percent_ok ho2 hI) ?_
    rintro _ _ ⟨p2, o3, rfl, h20, h21, ho3, rfl⟩
    simp only [w_some, w_ofIf, w_ofMap, vAt_fz, w_var, w_C, k1_, w_1, k2b_, k2_, w_2, kA_, w_A, kMb_, kM_, w_M, w_aNil, kaCb_, kaC_, w_aCons, w_oNo, koAt_i, w_oAt, kSlc_, kSlb_, kSl_, w_Sl, ktB_, w_tB, bl_bl, ktT_, w_tTr, ktAnd_, w_tAnd, ktOr_, w_tOr, ktNot_, w_tNot, w_tYes, kIf_, w_If, kAnd_b, kOr_b, w_And, w_Or, ktL_, kbL_, kbF_, lentT_o, lentT_f, lentB_o, lentB_f, w_tBor, w_Bor, flat_int, flat_bl, flat_str, flat_non, kS_nx, kS_bk, kS_ct, kS_rt, w_Seq, kJ_s, w_J, w_Nx, w_Bk, w_Ct, kSet_, w_Set, kAugb_, kAugc_, kAug_, w_Aug, kParb_, kPar_, w_Par, gAt_some, kAsg_, w_Asg, kDrop_, w_Drop, kRet_, w_Ret, w_RetN, kIfS_, kApp_, kApp2_, appAt_, w_App, kPut_, putAt_, kPut2_, kPut3_, w_Put, w_Frz, frz_eq, frz1_ow, frz1_fz, kSetO_, w_SetO, kUp_, w_Up, kO_, w_O, dAt_, kFz_, w_Fz, rAt_ow, kRetO_, w_RetO, fEnd_rt, fEnd_nx, w_Fn, w_noEx, w_arNil, karb_, kar_, w_arCons, kasb_, kas_, w_arSlot, callAt_, kBack_, kCall_, w_Call, pull_nil, pull_fz, pull_sl, pull1_ow, push_nil, push_fz, push_sl, push1_ow, outs_nil, outs_f, outs_o, gN_ap, gTp_ap, gsNil_ap, gsCons_ap, kFor_, w_For, kiR_, w_iR, kiS_l, kiS_t, kiE_l, kiE_t, kiC_s, w_iC, w_iS, w_iE, kRnd_nx, kRnd_ct, kRnd_bk, kRnd_rt, kLcB_, kLcBO_, kLc_, kLcO_, w_Lc, w_LcO, kLcT_, kLcE_, v_add, v_sub, v_mul, v_div, v_mod, v_pow, v_ltA, v_leA, v_gtA, v_geA, v_eqA, v_neA, v_eqAs, v_eqAb, v_plusI, v_max2i, v_min2i, v_one, v_lenL, v_lenT, v_intI, v_tupL, v_tupT, v_lstL, v_lstT, v_sumL, v_sumT, v_maxL, v_minL, u_isN, u_notN, v_isT, v_not, u_neg, v_slL, v_slT, v_ixL, v_ixT, v_r1, v_r2, v_mulW, v_divW, v_gcdI, v_absI, v_sumR, v_foLstT, v_foLstL, v_foLst, v_tupOf, v_lstOf, o_fz, o_ol, o_nil, o_cons, at0, at1, at2, at3, at4, at5, at6, at7, ix_1_0, ix_2_0, ix_2_1, ix_3_0, ix_3_1, ix_3_2, ix_4_0, ix_4_1, ix_4_2, ix_4_3, ix_5_0, ix_5_1, ix_5_2, ix_5_3, ix_5_4, ix_6_0, ix_6_1, ix_6_2, ix_6_3, ix_6_4, ix_6_5, ix_7_0, ix_7_1, ix_7_2, ix_7_3, ix_7_4, ix_7_5, ix_7_6, ix_8_0, ix_8_1, ix_8_2, ix_8_3, ix_8_4, ix_8_5, ix_8_6, ix_8_7, ix_9_0, ix_9_1, ix_9_2, ix_9_3, ix_9_4, ix_9_5, ix_9_6, ix_9_7, ix_9_8, ix_10_0, ix_10_1, ix_10_2, ix_10_3, ix_10_4, ix_10_5, ix_10_6, ix_10_7, ix_10_8, ix_10_9, ix_11_0, ix_11_1, ix_11_2, ix_11_3, ix_11_4, ix_11_5, ix_11_6, ix_11_7, ix_11_8, ix_11_9, ix_11_10, ix_12_0, ix_12_1, ix_12_2, ix_12_3, ix_12_4, ix_12_5, ix_12_6, ix_12_7, ix_12_8, ix_12_9, ix_12_10, ix_12_11, isT_tuple_non, isT_tuple_bl, isT_tuple_int, isT_tuple_str, isT_tuple_tup, isT_tuple_lst, isT_int_non, isT_int_bl, isT_int_int, isT_int_str, isT_int_tup, isT_int_lst, isT_bool_non, isT_bool_bl, isT_bool_int, isT_bool_str, isT_bool_tup, isT_bool_lst, isT_str_non, isT_str_bl, isT_str_int, isT_str_str, isT_str_tup, isT_str_lst, isT_list_non, isT_list_bl, isT_list_int, isT_list_str, isT_list_tup, isT_list_lst, isN_non, isN_bl, isN_int, isN_str, isN_tup, isN_lst, at_ints, sz_iff, big_iff, div_iff, mod_iff, mul_iff, mulW_iff, divW_iff, pow_iff, List.getElem?_cons_succ, List.getElem?_cons_zero, List.set_cons_zero, List.set_cons_succ, List.cons_append, List.nil_append, List.replicate, Option.map_some, Option.bind_some, decide_eq_true_eq, decide_eq_false_iff_not, Option.some.injEq, exists_eq_left', Bool.not_eq_true', Bool.not_eq_false', Bool.not_true, Bool.not_false, Int.not_lt, Int.not_le, true_and, and_true, if_true, List.length_cons, List.length_nil, List.map_cons, List.map_nil, true_imp_iff, false_imp_iff, imp_self, imp_true_iff, not_true_eq_false, not_false_eq_true, List.length_map, Bool.false_eq_true, if_false, Bool.true_eq_false, reduceCtorEq, nos, backs, Sl.keep, decide_true, decide_false, ilist_map, O.lf, List.contains_cons, List.contains_nil, Bool.and_eq_true, beq_self_eq_true, Bool.or_false, Bool.or_true, Bool.true_or, Bool.false_or, and_self, if_pos, gAt_some, ds_fz, Nat.reduceBEq, Nat.reduceEqDiff, ite_self, rangeD_len, numbered_len, Int.toNat_natCast, Nat.reduceAdd, Int.reduceMod, Int.reduceDiv, Int.reduceLT, Int.reduceLE, Int.reduceNeg, Int.reduceMul, Int.reduceAdd, Int.reduceSub, Int.reducePow, Nat.reduceAdd, Nat.reduceLT, Nat.reduceLeDiff, Int.reduceEq, true_or, or_true, Int.reduceToNat, Int.toNat_zero, Int.toNat_one, List.length_set, List.length_append, List.length_singleton, Int.reduceAbs]
    have ha : 0 ≤ (if p2 < p1 then p2 else p1) ∧ (if p2 < p1 then p2 else p1) ≤ (if p2 > p1 then p2 else p1) ∧ (if p2 > p1 then p2 else p1) ≤ 100 := by split <;> split <;> omega
    generalize (if p2 < p1 then p2 else p1) = a at ha ⊢
    generalize (if p2 > p1 then p2 else p1) = b at ha ⊢
    obtain ⟨ha0, hab, hb⟩ := ha
    refine w_mono (P := fun f Γ => f = .nx ∧ ∃ b o', a ≤ b ∧ b ≤ 100 ∧ FeedOk o' ∧ Γ = [Sl.fz (.lst (ns.map D.int)), .ow none o', .fz d, .fz (.lst (ps.map itD)), .fz (.int p1), .fz (.int p2), .fz (.int a), .fz (.int b), s8, s9, s10, s11, .no]) ?_ ?_
    · simp only [w_some, w_ofIf, w_ofMap, vAt_fz, w_var, w_C, k1_, w_1, k2b_, k2_, w_2, kA_, w_A, kMb_, kM_, w_M, w_aNil, kaCb_, kaC_, w_aCons, w_oNo, koAt_i, w_oAt, kSlc_, kSlb_, kSl_, w_Sl, ktB_, w_tB, bl_bl, ktT_, w_tTr, ktAnd_, w_tAnd, ktOr_, w_tOr, ktNot_, w_tNot, w_tYes, kIf_, w_If, kAnd_b, kOr_b, w_And, w_Or, ktL_, kbL_, kbF_, lentT_o, lentT_f, lentB_o, lentB_f, w_tBor, w_Bor, flat_int, flat_bl, flat_str, flat_non, kS_nx, kS_bk, kS_ct, kS_rt, w_Seq, kJ_s, w_J, w_Nx, w_Bk, w_Ct, kSet_, w_Set, kAugb_, kAugc_, kAug_, w_Aug, kParb_, kPar_, w_Par, gAt_some, kAsg_, w_Asg, kDrop_, w_Drop, kRet_, w_Ret, w_RetN, kIfS_, w_IfS, kApp_, kApp2_, appAt_, w_App, kPut_, putAt_, kPut2_, kPut3_, w_Put, w_Frz, frz_eq, frz1_ow, frz1_fz, kSetO_, w_SetO, kUp_, w_Up, kO_, w_O, dAt_, kFz_, w_Fz, rAt_ow, kRetO_, w_RetO, fEnd_rt, fEnd_nx, w_Fn, w_noEx, w_arNil, karb_, kar_, w_arCons, kasb_, kas_, w_arSlot, callAt_, kBack_, kCall_, w_Call, pull_nil, pull_fz, pull_sl, pull1_ow, push_nil, push_fz, push_sl, push1_ow, outs_nil, outs_f, outs_o, gN_ap, gTp_ap, gsNil_ap, gsCons_ap, kFor_, w_For, kiR_, w_iR, kiS_l, kiS_t, kiE_l, kiE_t, kiC_s, w_iC, w_iS, w_iE, kRnd_nx, kRnd_ct, kRnd_bk, kRnd_rt, kLcB_, kLcBO_, kLc_, kLcO_, w_Lc, w_LcO, kLcT_, kLcE_, v_add, v_sub, v_mul, v_div, v_mod, v_pow, v_ltA, v_leA, v_gtA, v_geA, v_eqA, v_neA, v_eqAs, v_eqAb, v_plusI, v_max2i, v_min2i, v_one, v_lenL, v_lenT, v_intI, v_tupL, v_tupT, v_lstL, v_lstT, v_sumL, v_sumT, v_maxL, v_minL, u_isN, u_notN, v_isT, v_not, u_neg, v_slL, v_slT, v_ixL, v_ixT, v_r1, v_r2, v_mulW, v_divW, v_gcdI, v_absI, v_sumR, v_foLstT, v_foLstL, v_foLst, v_tupOf, v_lstOf, o_fz, o_ol, o_nil, o_cons, at0, at1, at2, at3, at4, at5, at6, at7, ix_1_0, ix_2_0, ix_2_1, ix_3_0, ix_3_1, ix_3_2, ix_4_0, ix_4_1, ix_4_2, ix_4_3, ix_5_0, ix_5_1, ix_5_2, ix_5_3, ix_5_4, ix_6_0, ix_6_1, ix_6_2, ix_6_3, ix_6_4, ix_6_5, ix_7_0, ix_7_1, ix_7_2, ix_7_3, ix_7_4, ix_7_5, ix_7_6, ix_8_0, ix_8_1, ix_8_2, ix_8_3, ix_8_4, ix_8_5, ix_8_6, ix_8_7, ix_9_0, ix_9_1, ix_9_2, ix_9_3, ix_9_4, ix_9_5, ix_9_6, ix_9_7, ix_9_8, ix_10_0, ix_10_1, ix_10_2, ix_10_3, ix_10_4, ix_10_5, ix_10_6, ix_10_7, ix_10_8, ix_10_9, ix_11_0, ix_11_1, ix_11_2, ix_11_3, ix_11_4, ix_11_5, ix_11_6, ix_11_7, ix_11_8, ix_11_9, ix_11_10, ix_12_0, ix_12_1, ix_12_2, ix_12_3, ix_12_4, ix_12_5, ix_12_6, ix_12_7, ix_12_8, ix_12_9, ix_12_10, ix_12_11, isT_tuple_non, isT_tuple_bl, isT_tuple_int, isT_tuple_str, isT_tuple_tup, isT_tuple_lst, isT_int_non, isT_int_bl, isT_int_int, isT_int_str, isT_int_tup, isT_int_lst, isT_bool_non, isT_bool_bl, isT_bool_int, isT_bool_str, isT_bool_tup, isT_bool_lst, isT_str_non, isT_str_bl, isT_str_int, isT_str_str, isT_str_tup, isT_str_lst, isT_list_non, isT_list_bl, isT_list_int, isT_list_str, isT_list_tup, isT_list_lst, isN_non, isN_bl, isN_int, isN_str, isN_tup, isN_lst, at_ints, sz_iff, big_iff, div_iff, mod_iff, mul_iff, mulW_iff, divW_iff, pow_iff, List.getElem?_cons_succ, List.getElem?_cons_zero, List.set_cons_zero, List.set_cons_succ, List.cons_append, List.nil_append, List.replicate, Option.map_some, Option.bind_some, decide_eq_true_eq, decide_eq_false_iff_not, Option.some.injEq, exists_eq_left', Bool.not_eq_true', Bool.not_eq_false', Bool.not_true, Bool.not_false, Int.not_lt, Int.not_le, true_and, and_true, if_true, List.length_cons, List.length_nil, List.map_cons, List.map_nil, true_imp_iff, false_imp_iff, imp_self, imp_true_iff, not_true_eq_false, not_false_eq_true, List.length_map, Bool.false_eq_true, if_false, Bool.true_eq_false, reduceCtorEq, nos, backs, Sl.keep, decide_true, decide_false, ilist_map, O.lf, List.contains_cons, List.contains_nil, Bool.and_eq_true, beq_self_eq_true, Bool.or_false, Bool.or_true, Bool.true_or, Bool.false_or, and_self, if_pos, gAt_some, ds_fz, Nat.reduceBEq, Nat.reduceEqDiff, ite_self, rangeD_len, numbered_len, Int.toNat_natCast, Nat.reduceAdd, Int.reduceMod, Int.reduceDiv, Int.reduceLT, Int.reduceLE, Int.reduceNeg, Int.reduceMul, Int.reduceAdd, Int.reduceSub, Int.reducePow, Nat.reduceAdd, Nat.reduceLT, Nat.reduceLeDiff, Int.reduceEq, true_or, or_true, Int.reduceToNat, Int.toNat_zero, Int.toNat_one, List.length_set, List.length_append, List.length_singleton, Int.reduceAbs]
      refine draw_wp (by assumption) (by omega) (by omega) fun x4 o4 hx4 kx4 ho4 => ?_; simp only [w_some, w_ofIf, w_ofMap, vAt_fz, w_var, w_C, k1_, w_1, k2b_, k2_, w_2, kA_, w_A, kMb_, kM_, w_M, w_aNil, kaCb_, kaC_, w_aCons, w_oNo, koAt_i, w_oAt, kSlc_, kSlb_, kSl_, w_Sl, ktB_, w_tB, bl_bl, ktT_, w_tTr, ktAnd_, w_tAnd, ktOr_, w_tOr, ktNot_, w_tNot, w_tYes, kIf_, w_If, kAnd_b, kOr_b, w_And, w_Or, ktL_, kbL_, kbF_, lentT_o, lentT_f, lentB_o, lentB_f, w_tBor, w_Bor, flat_int, flat_bl, flat_str, flat_non, kS_nx, kS_bk, kS_ct, kS_rt, w_Seq, kJ_s, w_J, w_Nx, w_Bk, w_Ct, kSet_, w_Set, kAugb_, kAugc_, kAug_, w_Aug, kParb_, kPar_, w_Par, gAt_some, kAsg_, w_Asg, kDrop_, w_Drop, kRet_, w_Ret, w_RetN, kIfS_, w_IfS, kApp_, kApp2_, appAt_, w_App, kPut_, putAt_, kPut2_, kPut3_, w_Put, w_Frz, frz_eq, frz1_ow, frz1_fz, kSetO_, w_SetO, kUp_, w_Up, kO_, w_O, dAt_, kFz_, w_Fz, rAt_ow, kRetO_, w_RetO, fEnd_rt, fEnd_nx, w_Fn, w_noEx, w_arNil, karb_, kar_, w_arCons, kasb_, kas_, w_arSlot, callAt_, kBack_, kCall_, w_Call, pull_nil, pull_fz, pull_sl, pull1_ow, push_nil, push_fz, push_sl, push1_ow, outs_nil, outs_f, outs_o, gN_ap, gTp_ap, gsNil_ap, gsCons_ap, kFor_, w_For, kiR_, w_iR, kiS_l, kiS_t, kiE_l, kiE_t, kiC_s, w_iC, w_iS, w_iE, kRnd_nx, kRnd_ct, kRnd_bk, kRnd_rt, kLcB_, kLcBO_, kLc_, kLcO_, w_Lc, w_LcO, kLcT_, kLcE_, v_add, v_sub, v_mul, v_div, v_mod, v_pow, v_ltA, v_leA, v_gtA, v_geA, v_eqA, v_neA, v_eqAs, v_eqAb, v_plusI, v_max2i, v_min2i, v_one, v_lenL, v_lenT, v_intI, v_tupL, v_tupT, v_lstL, v_lstT, v_sumL, v_sumT, v_maxL, v_minL, u_isN, u_notN, v_isT, v_not, u_neg, v_slL, v_slT, v_ixL, v_ixT, v_r1, v_r2, v_mulW, v_divW, v_gcdI, v_absI, v_sumR, v_foLstT, v_foLstL, v_foLst, v_tupOf, v_lstOf, o_fz, o_ol, o_nil, o_cons, at0, at1, at2, at3, at4, at5, at6, at7, ix_1_0, ix_2_0, ix_2_1, ix_3_0, ix_3_1, ix_3_2, ix_4_0, ix_4_1, ix_4_2, ix_4_3, ix_5_0, ix_5_1, ix_5_2, ix_5_3, ix_5_4, ix_6_0, ix_6_1, ix_6_2, ix_6_3, ix_6_4, ix_6_5, ix_7_0, ix_7_1, ix_7_2, ix_7_3, ix_7_4, ix_7_5, ix_7_6, ix_8_0, ix_8_1, ix_8_2, ix_8_3, ix_8_4, ix_8_5, ix_8_6, ix_8_7, ix_9_0, ix_9_1, ix_9_2, ix_9_3, ix_9_4, ix_9_5, ix_9_6, ix_9_7, ix_9_8, ix_10_0, ix_10_1, ix_10_2, ix_10_3, ix_10_4, ix_10_5, ix_10_6, ix_10_7, ix_10_8, ix_10_9, ix_11_0, ix_11_1, ix_11_2, ix_11_3, ix_11_4, ix_11_5, ix_11_6, ix_11_7, ix_11_8, ix_11_9, ix_11_10, ix_12_0, ix_12_1, ix_12_2, ix_12_3, ix_12_4, ix_12_5, ix_12_6, ix_12_7, ix_12_8, ix_12_9, ix_12_10, ix_12_11, isT_tuple_non, isT_tuple_bl, isT_tuple_int, isT_tuple_str, isT_tuple_tup, isT_tuple_lst, isT_int_non, isT_int_bl, isT_int_int, isT_int_str, isT_int_tup, isT_int_lst, isT_bool_non, isT_bool_bl, isT_bool_int, isT_bool_str, isT_bool_tup, isT_bool_lst, isT_str_non, isT_str_bl, isT_str_int, isT_str_str, isT_str_tup, isT_str_lst, isT_list_non, isT_list_bl, isT_list_int, isT_list_str, isT_list_tup, isT_list_lst, isN_non, isN_bl, isN_int, isN_str, isN_tup, isN_lst, at_ints, sz_iff, big_iff, div_iff, mod_iff, mul_iff, mulW_iff, divW_iff, pow_iff, List.getElem?_cons_succ, List.getElem?_cons_zero, List.set_cons_zero, List.set_cons_succ, List.cons_append, List.nil_append, List.replicate, Option.map_some, Option.bind_some, decide_eq_true_eq, decide_eq_false_iff_not, Option.some.injEq, exists_eq_left', Bool.not_eq_true', Bool.not_eq_false', Bool.not_true, Bool.not_false, Int.not_lt, Int.not_le, true_and, and_true, if_true, List.length_cons, List.length_nil, List.map_cons, List.map_nil, true_imp_iff, false_imp_iff, imp_self, imp_true_iff, not_true_eq_false, not_false_eq_true, List.length_map, Bool.false_eq_true, if_false, Bool.true_eq_false, reduceCtorEq, nos, backs, Sl.keep, decide_true, decide_false, ilist_map, O.lf, List.contains_cons, List.contains_nil, Bool.and_eq_true, beq_self_eq_true, Bool.or_false, Bool.or_true, Bool.true_or, Bool.false_or, and_self, if_pos, gAt_some, ds_fz, Nat.reduceBEq, Nat.reduceEqDiff, ite_self, rangeD_len, numbered_len, Int.toNat_natCast, Nat.reduceAdd, Int.reduceMod, Int.reduceDiv, Int.reduceLT, Int.reduceLE, Int.reduceNeg, Int.reduceMul, Int.reduceAdd, Int.reduceSub, Int.reducePow, Nat.reduceAdd, Nat.reduceLT, Nat.reduceLeDiff, Int.reduceEq, true_or, or_true, Int.reduceToNat, Int.toNat_zero, Int.toNat_one, List.length_set, List.length_append, List.length_singleton, Int.reduceAbs]
      exact ⟨fun _ => ⟨a, o4, by omega, by omega, ho4, rfl⟩, fun _ => ⟨b, o4, hab, hb, ho4, rfl⟩⟩
    rintro _ _ ⟨rfl, b, o4, hab, hb, ho4, rfl⟩
    have hIl := hI.l
    simp only [w_some, w_ofIf, w_ofMap, vAt_fz, w_var, w_C, k1_, w_1, k2b_, k2_, w_2, kA_, w_A, kMb_, kM_, w_M, w_aNil, kaCb_, kaC_, w_aCons, w_oNo, koAt_i, w_oAt, kSlc_, kSlb_, kSl_, w_Sl, ktB_, w_tB, bl_bl, ktT_, w_tTr, ktAnd_, w_tAnd, ktOr_, w_tOr, ktNot_, w_tNot, w_tYes, kIf_, w_If, kAnd_b, kOr_b, w_And, w_Or, ktL_, kbL_, kbF_, lentT_o, lentT_f, lentB_o, lentB_f, w_tBor, w_Bor, flat_int, flat_bl, flat_str, flat_non, kS_nx, kS_bk, kS_ct, kS_rt, w_Seq, kJ_s, w_J, w_Nx, w_Bk, w_Ct, kSet_, w_Set, kAugb_, kAugc_, kAug_, w_Aug, kParb_, kPar_, w_Par, gAt_some, kAsg_, w_Asg, kDrop_, w_Drop, kRet_, w_Ret, w_RetN, kIfS_, kApp_, kApp2_, appAt_, w_App, kPut_, putAt_, kPut2_, kPut3_, w_Put, w_Frz, frz_eq, frz1_ow, frz1_fz, kSetO_, w_SetO, kUp_, w_Up, kO_, w_O, dAt_, kFz_, w_Fz, rAt_ow, kRetO_, w_RetO, fEnd_rt, fEnd_nx, w_Fn, w_noEx, w_arNil, karb_, kar_, w_arCons, kasb_, kas_, w_arSlot, callAt_, kBack_, kCall_, w_Call, pull_nil, pull_fz, pull_sl, pull1_ow, push_nil, push_fz, push_sl, push1_ow, outs_nil, outs_f, outs_o, gN_ap, gTp_ap, gsNil_ap, gsCons_ap, kFor_, w_For, kiR_, w_iR, kiS_l, kiS_t, kiE_l, kiE_t, kiC_s, w_iC, w_iS, w_iE, kRnd_nx, kRnd_ct, kRnd_bk, kRnd_rt, kLcB_, kLcBO_, kLc_, kLcO_, w_Lc, w_LcO, kLcT_, kLcE_, v_add, v_sub, v_mul, v_div, v_mod, v_pow, v_ltA, v_leA, v_gtA, v_geA, v_eqA, v_neA, v_eqAs, v_eqAb, v_plusI, v_max2i, v_min2i, v_one, v_lenL, v_lenT, v_intI, v_tupL, v_tupT, v_lstL, v_lstT, v_sumL, v_sumT, v_maxL, v_minL, u_isN, u_notN, v_isT, v_not, u_neg, v_slL, v_slT, v_ixL, v_ixT, v_r1, v_r2, v_mulW, v_divW, v_gcdI, v_absI, v_sumR, v_foLstT, v_foLstL, v_foLst, v_tupOf, v_lstOf, o_fz, o_ol, o_nil, o_cons, at0, at1, at2, at3, at4, at5, at6, at7, ix_1_0, ix_2_0, ix_2_1, ix_3_0, ix_3_1, ix_3_2, ix_4_0, ix_4_1, ix_4_2, ix_4_3, ix_5_0, ix_5_1, ix_5_2, ix_5_3, ix_5_4, ix_6_0, ix_6_1, ix_6_2, ix_6_3, ix_6_4, ix_6_5, ix_7_0, ix_7_1, ix_7_2, ix_7_3, ix_7_4, ix_7_5, ix_7_6, ix_8_0, ix_8_1, ix_8_2, ix_8_3, ix_8_4, ix_8_5, ix_8_6, ix_8_7, ix_9_0, ix_9_1, ix_9_2, ix_9_3, ix_9_4, ix_9_5, ix_9_6, ix_9_7, ix_9_8, ix_10_0, ix_10_1, ix_10_2, ix_10_3, ix_10_4, ix_10_5, ix_10_6, ix_10_7, ix_10_8, ix_10_9, ix_11_0, ix_11_1, ix_11_2, ix_11_3, ix_11_4, ix_11_5, ix_11_6, ix_11_7, ix_11_8, ix_11_9, ix_11_10, ix_12_0, ix_12_1, ix_12_2, ix_12_3, ix_12_4, ix_12_5, ix_12_6, ix_12_7, ix_12_8, ix_12_9, ix_12_10, ix_12_11, isT_tuple_non, isT_tuple_bl, isT_tuple_int, isT_tuple_str, isT_tuple_tup, isT_tuple_lst, isT_int_non, isT_int_bl, isT_int_int, isT_int_str, isT_int_tup, isT_int_lst, isT_bool_non, isT_bool_bl, isT_bool_int, isT_bool_str, isT_bool_tup, isT_bool_lst, isT_str_non, isT_str_bl, isT_str_int, isT_str_str, isT_str_tup, isT_str_lst, isT_list_non, isT_list_bl, isT_list_int, isT_list_str, isT_list_tup, isT_list_lst, isN_non, isN_bl, isN_int, isN_str, isN_tup, isN_lst, at_ints, sz_iff, big_iff, div_iff, mod_iff, mul_iff, mulW_iff, divW_iff, pow_iff, List.getElem?_cons_succ, List.getElem?_cons_zero, List.set_cons_zero, List.set_cons_succ, List.cons_append, List.nil_append, List.replicate, Option.map_some, Option.bind_some, decide_eq_true_eq, decide_eq_false_iff_not, Option.some.injEq, exists_eq_left', Bool.not_eq_true', Bool.not_eq_false', Bool.not_true, Bool.not_false, Int.not_lt, Int.not_le, true_and, and_true, if_true, List.length_cons, List.length_nil, List.map_cons, List.map_nil, true_imp_iff, false_imp_iff, imp_self, imp_true_iff, not_true_eq_false, not_false_eq_true, List.length_map, Bool.false_eq_true, if_false, Bool.true_eq_false, reduceCtorEq, nos, backs, Sl.keep, decide_true, decide_false, ilist_map, O.lf, List.contains_cons, List.contains_nil, Bool.and_eq_true, beq_self_eq_true, Bool.or_false, Bool.or_true, Bool.true_or, Bool.false_or, and_self, if_pos, gAt_some, ds_fz, Nat.reduceBEq, Nat.reduceEqDiff, ite_self, rangeD_len, numbered_len, Int.toNat_natCast, Nat.reduceAdd, Int.reduceMod, Int.reduceDiv, Int.reduceLT, Int.reduceLE, Int.reduceNeg, Int.reduceMul, Int.reduceAdd, Int.reduceSub, Int.reducePow, Nat.reduceAdd, Nat.reduceLT, Nat.reduceLeDiff, Int.reduceEq, true_or, or_true, Int.reduceToNat, Int.toNat_zero, Int.toNat_one, List.length_set, List.length_append, List.length_singleton, Int.reduceAbs, lf_map, ds_fz]
    have r1 := right_ok (x := .lst (ps.map itD)) hI (.inl rfl) ha0 hab hb
    refine w_mono (P := fun f Γ => f = .nx ∧ Γ = [Sl.fz (.lst (ns.map D.int)), .ow none o4, .fz d, .fz (.lst (ps.map itD)), .fz (.int p1), .fz (.int p2), .fz (.int a), .fz (.int b), .ow none (.ol ((ps.map itD).map O.fz)), s9, s10, s11, .no]) ?_ ?_
    · simp only [w_some, w_ofIf, w_ofMap, vAt_fz, w_var, w_C, k1_, w_1, k2b_, k2_, w_2, kA_, w_A, kMb_, kM_, w_M, w_aNil, kaCb_, kaC_, w_aCons, w_oNo, koAt_i, w_oAt, kSlc_, kSlb_, kSl_, w_Sl, ktB_, w_tB, bl_bl, ktT_, w_tTr, ktAnd_, w_tAnd, ktOr_, w_tOr, ktNot_, w_tNot, w_tYes, kIf_, w_If, kAnd_b, kOr_b, w_And, w_Or, ktL_, kbL_, kbF_, lentT_o, lentT_f, lentB_o, lentB_f, w_tBor, w_Bor, flat_int, flat_bl, flat_str, flat_non, kS_nx, kS_bk, kS_ct, kS_rt, w_Seq, kJ_s, w_J, w_Nx, w_Bk, w_Ct, kSet_, w_Set, kAugb_, kAugc_, kAug_, w_Aug, kParb_, kPar_, w_Par, gAt_some, kAsg_, w_Asg, kDrop_, w_Drop, kRet_, w_Ret, w_RetN, kIfS_, w_IfS, kApp_, kApp2_, appAt_, w_App, kPut_, putAt_, kPut2_, kPut3_, w_Put, w_Frz, frz_eq, frz1_ow, frz1_fz, kSetO_, w_SetO, kUp_, w_Up, kO_, w_O, dAt_, kFz_, w_Fz, rAt_ow, kRetO_, w_RetO, fEnd_rt, fEnd_nx, w_Fn, w_noEx, w_arNil, karb_, kar_, w_arCons, kasb_, kas_, w_arSlot, callAt_, kBack_, kCall_, w_Call, pull_nil, pull_fz, pull_sl, pull1_ow, push_nil, push_fz, push_sl, push1_ow, outs_nil, outs_f, outs_o, gN_ap, gTp_ap, gsNil_ap, gsCons_ap, kFor_, w_For, kiR_, w_iR, kiS_l, kiS_t, kiE_l, kiE_t, kiC_s, w_iC, w_iS, w_iE, kRnd_nx, kRnd_ct, kRnd_bk, kRnd_rt, kLcB_, kLcBO_, kLc_, kLcO_, w_Lc, w_LcO, kLcT_, kLcE_, v_add, v_sub, v_mul, v_div, v_mod, v_pow, v_ltA, v_leA, v_gtA, v_geA, v_eqA, v_neA, v_eqAs, v_eqAb, v_plusI, v_max2i, v_min2i, v_one, v_lenL, v_lenT, v_intI, v_tupL, v_tupT, v_lstL, v_lstT, v_sumL, v_sumT, v_maxL, v_minL, u_isN, u_notN, v_isT, v_not, u_neg, v_slL, v_slT, v_ixL, v_ixT, v_r1, v_r2, v_mulW, v_divW, v_gcdI, v_absI, v_sumR, v_foLstT, v_foLstL, v_foLst, v_tupOf, v_lstOf, o_fz, o_ol, o_nil, o_cons, at0, at1, at2, at3, at4, at5, at6, at7, ix_1_0, ix_2_0, ix_2_1, ix_3_0, ix_3_1, ix_3_2, ix_4_0, ix_4_1, ix_4_2, ix_4_3, ix_5_0, ix_5_1, ix_5_2, ix_5_3, ix_5_4, ix_6_0, ix_6_1, ix_6_2, ix_6_3, ix_6_4, ix_6_5, ix_7_0, ix_7_1, ix_7_2, ix_7_3, ix_7_4, ix_7_5, ix_7_6, ix_8_0, ix_8_1, ix_8_2, ix_8_3, ix_8_4, ix_8_5, ix_8_6, ix_8_7, ix_9_0, ix_9_1, ix_9_2, ix_9_3, ix_9_4, ix_9_5, ix_9_6, ix_9_7, ix_9_8, ix_10_0, ix_10_1, ix_10_2, ix_10_3, ix_10_4, ix_10_5, ix_10_6, ix_10_7, ix_10_8, ix_10_9, ix_11_0, ix_11_1, ix_11_2, ix_11_3, ix_11_4, ix_11_5, ix_11_6, ix_11_7, ix_11_8, ix_11_9, ix_11_10, ix_12_0, ix_12_1, ix_12_2, ix_12_3, ix_12_4, ix_12_5, ix_12_6, ix_12_7, ix_12_8, ix_12_9, ix_12_10, ix_12_11, isT_tuple_non, isT_tuple_bl, isT_tuple_int, isT_tuple_str, isT_tuple_tup, isT_tuple_lst, isT_int_non, isT_int_bl, isT_int_int, isT_int_str, isT_int_tup, isT_int_lst, isT_bool_non, isT_bool_bl, isT_bool_int, isT_bool_str, isT_bool_tup, isT_bool_lst, isT_str_non, isT_str_bl, isT_str_int, isT_str_str, isT_str_tup, isT_str_lst, isT_list_non, isT_list_bl, isT_list_int, isT_list_str, isT_list_tup, isT_list_lst, isN_non, isN_bl, isN_int, isN_str, isN_tup, isN_lst, at_ints, sz_iff, big_iff, div_iff, mod_iff, mul_iff, mulW_iff, divW_iff, pow_iff, List.getElem?_cons_succ, List.getElem?_cons_zero, List.set_cons_zero, List.set_cons_succ, List.cons_append, List.nil_append, List.replicate, Option.map_some, Option.bind_some, decide_eq_true_eq, decide_eq_false_iff_not, Option.some.injEq, exists_eq_left', Bool.not_eq_true', Bool.not_eq_false', Bool.not_true, Bool.not_false, Int.not_lt, Int.not_le, true_and, and_true, if_true, List.length_cons, List.length_nil, List.map_cons, List.map_nil, true_imp_iff, false_imp_iff, imp_self, imp_true_iff, not_true_eq_false, not_false_eq_true, List.length_map, Bool.false_eq_true, if_false, Bool.true_eq_false, reduceCtorEq, nos, backs, Sl.keep, decide_true, decide_false, ilist_map, O.lf, List.contains_cons, List.contains_nil, Bool.and_eq_true, beq_self_eq_true, Bool.or_false, Bool.or_true, Bool.true_or, Bool.false_or, and_self, if_pos, gAt_some, ds_fz, Nat.reduceBEq, Nat.reduceEqDiff, ite_self, rangeD_len, numbered_len, Int.toNat_natCast, Nat.reduceAdd, Int.reduceMod, Int.reduceDiv, Int.reduceLT, Int.reduceLE, Int.reduceNeg, Int.reduceMul, Int.reduceAdd, Int.reduceSub, Int.reducePow, Nat.reduceAdd, Nat.reduceLT, Nat.reduceLeDiff, Int.reduceEq, true_or, or_true, Int.reduceToNat, Int.toNat_zero, Int.toNat_one, List.length_set, List.length_append, List.length_singleton, Int.reduceAbs, ds_fz, r1]
    rintro _ _ ⟨rfl, rfl⟩
    simp only [w_some, w_ofIf, w_ofMap, vAt_fz, w_var, w_C, k1_, w_1, k2b_, k2_, w_2, kA_, w_A, kMb_, kM_, w_M, w_aNil, kaCb_, kaC_, w_aCons, w_oNo, koAt_i, w_oAt, kSlc_, kSlb_, kSl_, w_Sl, ktB_, w_tB, bl_bl, ktT_, w_tTr, ktAnd_, w_tAnd, ktOr_, w_tOr, ktNot_, w_tNot, w_tYes, kIf_, w_If, kAnd_b, kOr_b, w_And, w_Or, ktL_, kbL_, kbF_, lentT_o, lentT_f, lentB_o, lentB_f, w_tBor, w_Bor, flat_int, flat_bl, flat_str, flat_non, kS_nx, kS_bk, kS_ct, kS_rt, w_Seq, kJ_s, w_J, w_Nx, w_Bk, w_Ct, kSet_, w_Set, kAugb_, kAugc_, kAug_, w_Aug, kParb_, kPar_, w_Par, gAt_some, kAsg_, w_Asg, kDrop_, w_Drop, kRet_, w_Ret, w_RetN, kIfS_, kApp_, kApp2_, appAt_, w_App, kPut_, putAt_, kPut2_, kPut3_, w_Put, w_Frz, frz_eq, frz1_ow, frz1_fz, kSetO_, w_SetO, kUp_, w_Up, kO_, w_O, dAt_, kFz_, w_Fz, rAt_ow, kRetO_, w_RetO, fEnd_rt, fEnd_nx, w_Fn, w_noEx, w_arNil, karb_, kar_, w_arCons, kasb_, kas_, w_arSlot, callAt_, kBack_, kCall_, w_Call, pull_nil, pull_fz, pull_sl, pull1_ow, push_nil, push_fz, push_sl, push1_ow, outs_nil, outs_f, outs_o, gN_ap, gTp_ap, gsNil_ap, gsCons_ap, kFor_, w_For, kiR_, w_iR, kiS_l, kiS_t, kiE_l, kiE_t, kiC_s, w_iC, w_iS, w_iE, kRnd_nx, kRnd_ct, kRnd_bk, kRnd_rt, kLcB_, kLcBO_, kLc_, kLcO_, w_Lc, w_LcO, kLcT_, kLcE_, v_add, v_sub, v_mul, v_div, v_mod, v_pow, v_ltA, v_leA, v_gtA, v_geA, v_eqA, v_neA, v_eqAs, v_eqAb, v_plusI, v_max2i, v_min2i, v_one, v_lenL, v_lenT, v_intI, v_tupL, v_tupT, v_lstL, v_lstT, v_sumL, v_sumT, v_maxL, v_minL, u_isN, u_notN, v_isT, v_not, u_neg, v_slL, v_slT, v_ixL, v_ixT, v_r1, v_r2, v_mulW, v_divW, v_gcdI, v_absI, v_sumR, v_foLstT, v_foLstL, v_foLst, v_tupOf, v_lstOf, o_fz, o_ol, o_nil, o_cons, at0, at1, at2, at3, at4, at5, at6, at7, ix_1_0, ix_2_0, ix_2_1, ix_3_0, ix_3_1, ix_3_2, ix_4_0, ix_4_1, ix_4_2, ix_4_3, ix_5_0, ix_5_1, ix_5_2, ix_5_3, ix_5_4, ix_6_0, ix_6_1, ix_6_2, ix_6_3, ix_6_4, ix_6_5, ix_7_0, ix_7_1, ix_7_2, ix_7_3, ix_7_4, ix_7_5, ix_7_6, ix_8_0, ix_8_1, ix_8_2, ix_8_3, ix_8_4, ix_8_5, ix_8_6, ix_8_7, ix_9_0, ix_9_1, ix_9_2, ix_9_3, ix_9_4, ix_9_5, ix_9_6, ix_9_7, ix_9_8, ix_10_0, ix_10_1, ix_10_2, ix_10_3, ix_10_4, ix_10_5, ix_10_6, ix_10_7, ix_10_8, ix_10_9, ix_11_0, ix_11_1, ix_11_2, ix_11_3, ix_11_4, ix_11_5, ix_11_6, ix_11_7, ix_11_8, ix_11_9, ix_11_10, ix_12_0, ix_12_1, ix_12_2, ix_12_3, ix_12_4, ix_12_5, ix_12_6, ix_12_7, ix_12_8, ix_12_9, ix_12_10, ix_12_11, isT_tuple_non, isT_tuple_bl, isT_tuple_int, isT_tuple_str, isT_tuple_tup, isT_tuple_lst, isT_int_non, isT_int_bl, isT_int_int, isT_int_str, isT_int_tup, isT_int_lst, isT_bool_non, isT_bool_bl, isT_bool_int, isT_bool_str, isT_bool_tup, isT_bool_lst, isT_str_non, isT_str_bl, isT_str_int, isT_str_str, isT_str_tup, isT_str_lst, isT_list_non, isT_list_bl, isT_list_int, isT_list_str, isT_list_tup, isT_list_lst, isN_non, isN_bl, isN_int, isN_str, isN_tup, isN_lst, at_ints, sz_iff, big_iff, div_iff, mod_iff, mul_iff, mulW_iff, divW_iff, pow_iff, List.getElem?_cons_succ, List.getElem?_cons_zero, List.set_cons_zero, List.set_cons_succ, List.cons_append, List.nil_append, List.replicate, Option.map_some, Option.bind_some, decide_eq_true_eq, decide_eq_false_iff_not, Option.some.injEq, exists_eq_left', Bool.not_eq_true', Bool.not_eq_false', Bool.not_true, Bool.not_false, Int.not_lt, Int.not_le, true_and, and_true, if_true, List.length_cons, List.length_nil, List.map_cons, List.map_nil, true_imp_iff, false_imp_iff, imp_self, imp_true_iff, not_true_eq_false, not_false_eq_true, List.length_map, Bool.false_eq_true, if_false, Bool.true_eq_false, reduceCtorEq, nos, backs, Sl.keep, decide_true, decide_false, ilist_map, O.lf, List.contains_cons, List.contains_nil, Bool.and_eq_true, beq_self_eq_true, Bool.or_false, Bool.or_true, Bool.true_or, Bool.false_or, and_self, if_pos, gAt_some, ds_fz, Nat.reduceBEq, Nat.reduceEqDiff, ite_self, rangeD_len, numbered_len, Int.toNat_natCast, Nat.reduceAdd, Int.reduceMod, Int.reduceDiv, Int.reduceLT, Int.reduceLE, Int.reduceNeg, Int.reduceMul, Int.reduceAdd, Int.reduceSub, Int.reducePow, Nat.reduceAdd, Nat.reduceLT, Nat.reduceLeDiff, Int.reduceEq, true_or, or_true, Int.reduceToNat, Int.toNat_zero, Int.toNat_one, List.length_set, List.length_append, List.length_singleton, Int.reduceAbs]
    refine ⟨by omega, by omega, ?_⟩
    have hrl : (rangeD 0 ps.length).length = ps.length := rangeD_len
    refine w_lcK (fun i ys Γ => ys = (ps.reverse.take i).map itD ∧ Γ = [Sl.fz (.lst (ns.map D.int)), .ow none o4, .fz d, .fz (.lst (ps.map itD)), .fz (.int p1), .fz (.int p2), .fz (.int a), .fz (.int b), .ow none (.ol ((ps.map itD).map O.fz)), s9, s10, s11, .no]) ⟨rfl, rfl⟩ ?_ ?_
    · rintro i d ys Γ hdi ⟨rfl, rfl⟩
      obtain ⟨hi, rfl⟩ := rangeD_get0 hdi
      have e1 : atI (ps.map itD) ((ps.length : Int) - 1 - (i : Int)) = some (itD (ps.reverse[i]'(by simpa using hi))) := by
        rw [show (ps.length : Int) - 1 - (i : Int) = ((ps.length - 1 - i : Nat) : Int) by omega]
        refine DL.atI_nat ?_
        rw [List.getElem?_map, List.getElem?_eq_getElem (by omega), List.getElem_reverse]; rfl
      simp only [w_some, w_ofIf, w_ofMap, vAt_fz, w_var, w_C, k1_, w_1, k2b_, k2_, w_2, kA_, w_A, kMb_, kM_, w_M, w_aNil, kaCb_, kaC_, w_aCons, w_oNo, koAt_i, w_oAt, kSlc_, kSlb_, kSl_, w_Sl, ktB_, w_tB, bl_bl, ktT_, w_tTr, ktAnd_, w_tAnd, ktOr_, w_tOr, ktNot_, w_tNot, w_tYes, kIf_, w_If, kAnd_b, kOr_b, w_And, w_Or, ktL_, kbL_, kbF_, lentT_o, lentT_f, lentB_o, lentB_f, w_tBor, w_Bor, flat_int, flat_bl, flat_str, flat_non, kS_nx, kS_bk, kS_ct, kS_rt, w_Seq, kJ_s, w_J, w_Nx, w_Bk, w_Ct, kSet_, w_Set, kAugb_, kAugc_, kAug_, w_Aug, kParb_, kPar_, w_Par, gAt_some, kAsg_, w_Asg, kDrop_, w_Drop, kRet_, w_Ret, w_RetN, kIfS_, w_IfS, kApp_, kApp2_, appAt_, w_App, kPut_, putAt_, kPut2_, kPut3_, w_Put, w_Frz, frz_eq, frz1_ow, frz1_fz, kSetO_, w_SetO, kUp_, w_Up, kO_, w_O, dAt_, kFz_, w_Fz, rAt_ow, kRetO_, w_RetO, fEnd_rt, fEnd_nx, w_Fn, w_noEx, w_arNil, karb_, kar_, w_arCons, kasb_, kas_, w_arSlot, callAt_, kBack_, kCall_, w_Call, pull_nil, pull_fz, pull_sl, pull1_ow, push_nil, push_fz, push_sl, push1_ow, outs_nil, outs_f, outs_o, gN_ap, gTp_ap, gsNil_ap, gsCons_ap, kFor_, w_For, kiR_, w_iR, kiS_l, kiS_t, kiE_l, kiE_t, kiC_s, w_iC, w_iS, w_iE, kRnd_nx, kRnd_ct, kRnd_bk, kRnd_rt, kLcB_, kLcBO_, kLc_, kLcO_, w_Lc, w_LcO, kLcT_, kLcE_, v_add, v_sub, v_mul, v_div, v_mod, v_pow, v_ltA, v_leA, v_gtA, v_geA, v_eqA, v_neA, v_eqAs, v_eqAb, v_plusI, v_max2i, v_min2i, v_one, v_lenL, v_lenT, v_intI, v_tupL, v_tupT, v_lstL, v_lstT, v_sumL, v_sumT, v_maxL, v_minL, u_isN, u_notN, v_isT, v_not, u_neg, v_slL, v_slT, v_ixL, v_ixT, v_r1, v_r2, v_mulW, v_divW, v_gcdI, v_absI, v_sumR, v_foLstT, v_foLstL, v_foLst, v_tupOf, v_lstOf, o_fz, o_ol, o_nil, o_cons, at0, at1, at2, at3, at4, at5, at6, at7, ix_1_0, ix_2_0, ix_2_1, ix_3_0, ix_3_1, ix_3_2, ix_4_0, ix_4_1, ix_4_2, ix_4_3, ix_5_0, ix_5_1, ix_5_2, ix_5_3, ix_5_4, ix_6_0, ix_6_1, ix_6_2, ix_6_3, ix_6_4, ix_6_5, ix_7_0, ix_7_1, ix_7_2, ix_7_3, ix_7_4, ix_7_5, ix_7_6, ix_8_0, ix_8_1, ix_8_2, ix_8_3, ix_8_4, ix_8_5, ix_8_6, ix_8_7, ix_9_0, ix_9_1, ix_9_2, ix_9_3, ix_9_4, ix_9_5, ix_9_6, ix_9_7, ix_9_8, ix_10_0, ix_10_1, ix_10_2, ix_10_3, ix_10_4, ix_10_5, ix_10_6, ix_10_7, ix_10_8, ix_10_9, ix_11_0, ix_11_1, ix_11_2, ix_11_3, ix_11_4, ix_11_5, ix_11_6, ix_11_7, ix_11_8, ix_11_9, ix_11_10, ix_12_0, ix_12_1, ix_12_2, ix_12_3, ix_12_4, ix_12_5, ix_12_6, ix_12_7, ix_12_8, ix_12_9, ix_12_10, ix_12_11, isT_tuple_non, isT_tuple_bl, isT_tuple_int, isT_tuple_str, isT_tuple_tup, isT_tuple_lst, isT_int_non, isT_int_bl, isT_int_int, isT_int_str, isT_int_tup, isT_int_lst, isT_bool_non, isT_bool_bl, isT_bool_int, isT_bool_str, isT_bool_tup, isT_bool_lst, isT_str_non, isT_str_bl, isT_str_int, isT_str_str, isT_str_tup, isT_str_lst, isT_list_non, isT_list_bl, isT_list_int, isT_list_str, isT_list_tup, isT_list_lst, isN_non, isN_bl, isN_int, isN_str, isN_tup, isN_lst, at_ints, sz_iff, big_iff, div_iff, mod_iff, mul_iff, mulW_iff, divW_iff, pow_iff, List.getElem?_cons_succ, List.getElem?_cons_zero, List.set_cons_zero, List.set_cons_succ, List.cons_append, List.nil_append, List.replicate, Option.map_some, Option.bind_some, decide_eq_true_eq, decide_eq_false_iff_not, Option.some.injEq, exists_eq_left', Bool.not_eq_true', Bool.not_eq_false', Bool.not_true, Bool.not_false, Int.not_lt, Int.not_le, true_and, and_true, if_true, List.length_cons, List.length_nil, List.map_cons, List.map_nil, true_imp_iff, false_imp_iff, imp_self, imp_true_iff, not_true_eq_false, not_false_eq_true, List.length_map, Bool.false_eq_true, if_false, Bool.true_eq_false, reduceCtorEq, nos, backs, Sl.keep, decide_true, decide_false, ilist_map, O.lf, List.contains_cons, List.contains_nil, Bool.and_eq_true, beq_self_eq_true, Bool.or_false, Bool.or_true, Bool.true_or, Bool.false_or, and_self, if_pos, gAt_some, ds_fz, Nat.reduceBEq, Nat.reduceEqDiff, ite_self, rangeD_len, numbered_len, Int.toNat_natCast, Nat.reduceAdd, Int.reduceMod, Int.reduceDiv, Int.reduceLT, Int.reduceLE, Int.reduceNeg, Int.reduceMul, Int.reduceAdd, Int.reduceSub, Int.reducePow, Nat.reduceAdd, Nat.reduceLT, Nat.reduceLeDiff, Int.reduceEq, true_or, or_true, Int.reduceToNat, Int.toNat_zero, Int.toNat_one, List.length_set, List.length_append, List.length_singleton, Int.reduceAbs, e1, take_map_succ (show i < ps.reverse.length by simpa using hi)]
    rintro ys Γ ⟨rfl, rfl⟩
    rw [hrl, List.take_of_length_le (by simp)]
    have hI2 : Items ps.reverse := hI.perm (List.reverse_perm ps)
    have r2 := right_ok (x := .tup (ps.reverse.map itD)) hI2 (.inr rfl) ha0 hab hb
    have htr : D.truth (.lst (ps.map itD)) = some (decide (0 < ps.length)) := by
      cases ps <;> simp [D.truth]
    simp only [w_some, w_ofIf, w_ofMap, vAt_fz, w_var, w_C, k1_, w_1, k2b_, k2_, w_2, kA_, w_A, kMb_, kM_, w_M, w_aNil, kaCb_, kaC_, w_aCons, w_oNo, koAt_i, w_oAt, kSlc_, kSlb_, kSl_, w_Sl, ktB_, w_tB, bl_bl, ktT_, w_tTr, ktAnd_, w_tAnd, ktOr_, w_tOr, ktNot_, w_tNot, w_tYes, kIf_, w_If, kAnd_b, kOr_b, w_And, w_Or, ktL_, kbL_, kbF_, lentT_o, lentT_f, lentB_o, lentB_f, w_tBor, w_Bor, flat_int, flat_bl, flat_str, flat_non, kS_nx, kS_bk, kS_ct, kS_rt, w_Seq, kJ_s, w_J, w_Nx, w_Bk, w_Ct, kSet_, w_Set, kAugb_, kAugc_, kAug_, w_Aug, kParb_, kPar_, w_Par, gAt_some, kAsg_, w_Asg, kDrop_, w_Drop, kRet_, w_Ret, w_RetN, kIfS_, w_IfS, kApp_, kApp2_, appAt_, w_App, kPut_, putAt_, kPut2_, kPut3_, w_Put, w_Frz, frz_eq, frz1_ow, frz1_fz, kSetO_, w_SetO, kUp_, w_Up, kO_, w_O, dAt_, kFz_, w_Fz, rAt_ow, kRetO_, w_RetO, fEnd_rt, fEnd_nx, w_Fn, w_noEx, w_arNil, karb_, kar_, w_arCons, kasb_, kas_, w_arSlot, callAt_, kBack_, kCall_, w_Call, pull_nil, pull_fz, pull_sl, pull1_ow, push_nil, push_fz, push_sl, push1_ow, outs_nil, outs_f, outs_o, gN_ap, gTp_ap, gsNil_ap, gsCons_ap, kFor_, w_For, kiR_, w_iR, kiS_l, kiS_t, kiE_l, kiE_t, kiC_s, w_iC, w_iS, w_iE, kRnd_nx, kRnd_ct, kRnd_bk, kRnd_rt, kLcB_, kLcBO_, kLc_, kLcO_, w_Lc, w_LcO, kLcT_, kLcE_, v_add, v_sub, v_mul, v_div, v_mod, v_pow, v_ltA, v_leA, v_gtA, v_geA, v_eqA, v_neA, v_eqAs, v_eqAb, v_plusI, v_max2i, v_min2i, v_one, v_lenL, v_lenT, v_intI, v_tupL, v_tupT, v_lstL, v_lstT, v_sumL, v_sumT, v_maxL, v_minL, u_isN, u_notN, v_isT, v_not, u_neg, v_slL, v_slT, v_ixL, v_ixT, v_r1, v_r2, v_mulW, v_divW, v_gcdI, v_absI, v_sumR, v_foLstT, v_foLstL, v_foLst, v_tupOf, v_lstOf, o_fz, o_ol, o_nil, o_cons, at0, at1, at2, at3, at4, at5, at6, at7, ix_1_0, ix_2_0, ix_2_1, ix_3_0, ix_3_1, ix_3_2, ix_4_0, ix_4_1, ix_4_2, ix_4_3, ix_5_0, ix_5_1, ix_5_2, ix_5_3, ix_5_4, ix_6_0, ix_6_1, ix_6_2, ix_6_3, ix_6_4, ix_6_5, ix_7_0, ix_7_1, ix_7_2, ix_7_3, ix_7_4, ix_7_5, ix_7_6, ix_8_0, ix_8_1, ix_8_2, ix_8_3, ix_8_4, ix_8_5, ix_8_6, ix_8_7, ix_9_0, ix_9_1, ix_9_2, ix_9_3, ix_9_4, ix_9_5, ix_9_6, ix_9_7, ix_9_8, ix_10_0, ix_10_1, ix_10_2, ix_10_3, ix_10_4, ix_10_5, ix_10_6, ix_10_7, ix_10_8, ix_10_9, ix_11_0, ix_11_1, ix_11_2, ix_11_3, ix_11_4, ix_11_5, ix_11_6, ix_11_7, ix_11_8, ix_11_9, ix_11_10, ix_12_0, ix_12_1, ix_12_2, ix_12_3, ix_12_4, ix_12_5, ix_12_6, ix_12_7, ix_12_8, ix_12_9, ix_12_10, ix_12_11, isT_tuple_non, isT_tuple_bl, isT_tuple_int, isT_tuple_str, isT_tuple_tup, isT_tuple_lst, isT_int_non, isT_int_bl, isT_int_int, isT_int_str, isT_int_tup, isT_int_lst, isT_bool_non, isT_bool_bl, isT_bool_int, isT_bool_str, isT_bool_tup, isT_bool_lst, isT_str_non, isT_str_bl, isT_str_int, isT_str_str, isT_str_tup, isT_str_lst, isT_list_non, isT_list_bl, isT_list_int, isT_list_str, isT_list_tup, isT_list_lst, isN_non, isN_bl, isN_int, isN_str, isN_tup, isN_lst, at_ints, sz_iff, big_iff, div_iff, mod_iff, mul_iff, mulW_iff, divW_iff, pow_iff, List.getElem?_cons_succ, List.getElem?_cons_zero, List.set_cons_zero, List.set_cons_succ, List.cons_append, List.nil_append, List.replicate, Option.map_some, Option.bind_some, decide_eq_true_eq, decide_eq_false_iff_not, Option.some.injEq, exists_eq_left', Bool.not_eq_true', Bool.not_eq_false', Bool.not_true, Bool.not_false, Int.not_lt, Int.not_le, true_and, and_true, if_true, List.length_cons, List.length_nil, List.map_cons, List.map_nil, true_imp_iff, false_imp_iff, imp_self, imp_true_iff, not_true_eq_false, not_false_eq_true, List.length_map, Bool.false_eq_true, if_false, Bool.true_eq_false, reduceCtorEq, nos, backs, Sl.keep, decide_true, decide_false, ilist_map, O.lf, List.contains_cons, List.contains_nil, Bool.and_eq_true, beq_self_eq_true, Bool.or_false, Bool.or_true, Bool.true_or, Bool.false_or, and_self, if_pos, gAt_some, ds_fz, Nat.reduceBEq, Nat.reduceEqDiff, ite_self, rangeD_len, numbered_len, Int.toNat_natCast, Nat.reduceAdd, Int.reduceMod, Int.reduceDiv, Int.reduceLT, Int.reduceLE, Int.reduceNeg, Int.reduceMul, Int.reduceAdd, Int.reduceSub, Int.reducePow, Nat.reduceAdd, Nat.reduceLT, Nat.reduceLeDiff, Int.reduceEq, true_or, or_true, Int.reduceToNat, Int.toNat_zero, Int.toNat_one, List.length_set, List.length_append, List.length_singleton, Int.reduceAbs, r2, htr]
    refine ⟨fun hpos => ?_, fun hpos => ⟨_, _, _, _, _, _, _, _, _, _, _, ho4, rfl⟩⟩
    refine draw_wp (by assumption) (by omega) (by omega) fun x5 o5 hx5 kx5 ho5 => ?_; simp only [w_some, w_ofIf, w_ofMap, vAt_fz, w_var, w_C, k1_, w_1, k2b_, k2_, w_2, kA_, w_A, kMb_, kM_, w_M, w_aNil, kaCb_, kaC_, w_aCons, w_oNo, koAt_i, w_oAt, kSlc_, kSlb_, kSl_, w_Sl, ktB_, w_tB, bl_bl, ktT_, w_tTr, ktAnd_, w_tAnd, ktOr_, w_tOr, ktNot_, w_tNot, w_tYes, kIf_, w_If, kAnd_b, kOr_b, w_And, w_Or, ktL_, kbL_, kbF_, lentT_o, lentT_f, lentB_o, lentB_f, w_tBor, w_Bor, flat_int, flat_bl, flat_str, flat_non, kS_nx, kS_bk, kS_ct, kS_rt, w_Seq, kJ_s, w_J, w_Nx, w_Bk, w_Ct, kSet_, w_Set, kAugb_, kAugc_, kAug_, w_Aug, kParb_, kPar_, w_Par, gAt_some, kAsg_, w_Asg, kDrop_, w_Drop, kRet_, w_Ret, w_RetN, kIfS_, w_IfS, kApp_, kApp2_, appAt_, w_App, kPut_, putAt_, kPut2_, kPut3_, w_Put, w_Frz, frz_eq, frz1_ow, frz1_fz, kSetO_, w_SetO, kUp_, w_Up, kO_, w_O, dAt_, kFz_, w_Fz, rAt_ow, kRetO_, w_RetO, fEnd_rt, fEnd_nx, w_Fn, w_noEx, w_arNil, karb_, kar_, w_arCons, kasb_, kas_, w_arSlot, callAt_, kBack_, kCall_, w_Call, pull_nil, pull_fz, pull_sl, pull1_ow, push_nil, push_fz, push_sl, push1_ow, outs_nil, outs_f, outs_o, gN_ap, gTp_ap, gsNil_ap, gsCons_ap, kFor_, w_For, kiR_, w_iR, kiS_l, kiS_t, kiE_l, kiE_t, kiC_s, w_iC, w_iS, w_iE, kRnd_nx, kRnd_ct, kRnd_bk, kRnd_rt, kLcB_, kLcBO_, kLc_, kLcO_, w_Lc, w_LcO, kLcT_, kLcE_, v_add, v_sub, v_mul, v_div, v_mod, v_pow, v_ltA, v_leA, v_gtA, v_geA, v_eqA, v_neA, v_eqAs, v_eqAb, v_plusI, v_max2i, v_min2i, v_one, v_lenL, v_lenT, v_intI, v_tupL, v_tupT, v_lstL, v_lstT, v_sumL, v_sumT, v_maxL, v_minL, u_isN, u_notN, v_isT, v_not, u_neg, v_slL, v_slT, v_ixL, v_ixT, v_r1, v_r2, v_mulW, v_divW, v_gcdI, v_absI, v_sumR, v_foLstT, v_foLstL, v_foLst, v_tupOf, v_lstOf, o_fz, o_ol, o_nil, o_cons, at0, at1, at2, at3, at4, at5, at6, at7, ix_1_0, ix_2_0, ix_2_1, ix_3_0, ix_3_1, ix_3_2, ix_4_0, ix_4_1, ix_4_2, ix_4_3, ix_5_0, ix_5_1, ix_5_2, ix_5_3, ix_5_4, ix_6_0, ix_6_1, ix_6_2, ix_6_3, ix_6_4, ix_6_5, ix_7_0, ix_7_1, ix_7_2, ix_7_3, ix_7_4, ix_7_5, ix_7_6, ix_8_0, ix_8_1, ix_8_2, ix_8_3, ix_8_4, ix_8_5, ix_8_6, ix_8_7, ix_9_0, ix_9_1, ix_9_2, ix_9_3, ix_9_4, ix_9_5, ix_9_6, ix_9_7, ix_9_8, ix_10_0, ix_10_1, ix_10_2, ix_10_3, ix_10_4, ix_10_5, ix_10_6, ix_10_7, ix_10_8, ix_10_9, ix_11_0, ix_11_1, ix_11_2, ix_11_3, ix_11_4, ix_11_5, ix_11_6, ix_11_7, ix_11_8, ix_11_9, ix_11_10, ix_12_0, ix_12_1, ix_12_2, ix_12_3, ix_12_4, ix_12_5, ix_12_6, ix_12_7, ix_12_8, ix_12_9, ix_12_10, ix_12_11, isT_tuple_non, isT_tuple_bl, isT_tuple_int, isT_tuple_str, isT_tuple_tup, isT_tuple_lst, isT_int_non, isT_int_bl, isT_int_int, isT_int_str, isT_int_tup, isT_int_lst, isT_bool_non, isT_bool_bl, isT_bool_int, isT_bool_str, isT_bool_tup, isT_bool_lst, isT_str_non, isT_str_bl, isT_str_int, isT_str_str, isT_str_tup, isT_str_lst, isT_list_non, isT_list_bl, isT_list_int, isT_list_str, isT_list_tup, isT_list_lst, isN_non, isN_bl, isN_int, isN_str, isN_tup, isN_lst, at_ints, sz_iff, big_iff, div_iff, mod_iff, mul_iff, mulW_iff, divW_iff, pow_iff, List.getElem?_cons_succ, List.getElem?_cons_zero, List.set_cons_zero, List.set_cons_succ, List.cons_append, List.nil_append, List.replicate, Option.map_some, Option.bind_some, decide_eq_true_eq, decide_eq_false_iff_not, Option.some.injEq, exists_eq_left', Bool.not_eq_true', Bool.not_eq_false', Bool.not_true, Bool.not_false, Int.not_lt, Int.not_le, true_and, and_true, if_true, List.length_cons, List.length_nil, List.map_cons, List.map_nil, true_imp_iff, false_imp_iff, imp_self, imp_true_iff, not_true_eq_false, not_false_eq_true, List.length_map, Bool.false_eq_true, if_false, Bool.true_eq_false, reduceCtorEq, nos, backs, Sl.keep, decide_true, decide_false, ilist_map, O.lf, List.contains_cons, List.contains_nil, Bool.and_eq_true, beq_self_eq_true, Bool.or_false, Bool.or_true, Bool.true_or, Bool.false_or, and_self, if_pos, gAt_some, ds_fz, Nat.reduceBEq, Nat.reduceEqDiff, ite_self, rangeD_len, numbered_len, Int.toNat_natCast, Nat.reduceAdd, Int.reduceMod, Int.reduceDiv, Int.reduceLT, Int.reduceLE, Int.reduceNeg, Int.reduceMul, Int.reduceAdd, Int.reduceSub, Int.reducePow, Nat.reduceAdd, Nat.reduceLT, Nat.reduceLeDiff, Int.reduceEq, true_or, or_true, Int.reduceToNat, Int.toNat_zero, Int.toNat_one, List.length_set, List.length_append, List.length_singleton, Int.reduceAbs]
    obtain ⟨p, rfl⟩ : ∃ p : Nat, x5 = p := ⟨x5.toNat, by omega⟩
    have hp : p < ps.length := by omega
    have e1 : atI (ps.map itD) (p : Int) = some (itD ps[p]) := DL.atI_nat (by rw [List.getElem?_map, List.getElem?_eq_getElem hp]; rfl)
    have hv := hI.v ps[p] (List.getElem_mem hp)
    simp only [w_some, w_ofIf, w_ofMap, vAt_fz, w_var, w_C, k1_, w_1, k2b_, k2_, w_2, kA_, w_A, kMb_, kM_, w_M, w_aNil, kaCb_, kaC_, w_aCons, w_oNo, koAt_i, w_oAt, kSlc_, kSlb_, kSl_, w_Sl, ktB_, w_tB, bl_bl, ktT_, w_tTr, ktAnd_, w_tAnd, ktOr_, w_tOr, ktNot_, w_tNot, w_tYes, kIf_, w_If, kAnd_b, kOr_b, w_And, w_Or, ktL_, kbL_, kbF_, lentT_o, lentT_f, lentB_o, lentB_f, w_tBor, w_Bor, flat_int, flat_bl, flat_str, flat_non, kS_nx, kS_bk, kS_ct, kS_rt, w_Seq, kJ_s, w_J, w_Nx, w_Bk, w_Ct, kSet_, w_Set, kAugb_, kAugc_, kAug_, w_Aug, kParb_, kPar_, w_Par, gAt_some, kAsg_, w_Asg, kDrop_, w_Drop, kRet_, w_Ret, w_RetN, kIfS_, w_IfS, kApp_, kApp2_, appAt_, w_App, kPut_, putAt_, kPut2_, kPut3_, w_Put, w_Frz, frz_eq, frz1_ow, frz1_fz, kSetO_, w_SetO, kUp_, w_Up, kO_, w_O, dAt_, kFz_, w_Fz, rAt_ow, kRetO_, w_RetO, fEnd_rt, fEnd_nx, w_Fn, w_noEx, w_arNil, karb_, kar_, w_arCons, kasb_, kas_, w_arSlot, callAt_, kBack_, kCall_, w_Call, pull_nil, pull_fz, pull_sl, pull1_ow, push_nil, push_fz, push_sl, push1_ow, outs_nil, outs_f, outs_o, gN_ap, gTp_ap, gsNil_ap, gsCons_ap, kFor_, w_For, kiR_, w_iR, kiS_l, kiS_t, kiE_l, kiE_t, kiC_s, w_iC, w_iS, w_iE, kRnd_nx, kRnd_ct, kRnd_bk, kRnd_rt, kLcB_, kLcBO_, kLc_, kLcO_, w_Lc, w_LcO, kLcT_, kLcE_, v_add, v_sub, v_mul, v_div, v_mod, v_pow, v_ltA, v_leA, v_gtA, v_geA, v_eqA, v_neA, v_eqAs, v_eqAb, v_plusI, v_max2i, v_min2i, v_one, v_lenL, v_lenT, v_intI, v_tupL, v_tupT, v_lstL, v_lstT, v_sumL, v_sumT, v_maxL, v_minL, u_isN, u_notN, v_isT, v_not, u_neg, v_slL, v_slT, v_ixL, v_ixT, v_r1, v_r2, v_mulW, v_divW, v_gcdI, v_absI, v_sumR, v_foLstT, v_foLstL, v_foLst, v_tupOf, v_lstOf, o_fz, o_ol, o_nil, o_cons, at0, at1, at2, at3, at4, at5, at6, at7, ix_1_0, ix_2_0, ix_2_1, ix_3_0, ix_3_1, ix_3_2, ix_4_0, ix_4_1, ix_4_2, ix_4_3, ix_5_0, ix_5_1, ix_5_2, ix_5_3, ix_5_4, ix_6_0, ix_6_1, ix_6_2, ix_6_3, ix_6_4, ix_6_5, ix_7_0, ix_7_1, ix_7_2, ix_7_3, ix_7_4, ix_7_5, ix_7_6, ix_8_0, ix_8_1, ix_8_2, ix_8_3, ix_8_4, ix_8_5, ix_8_6, ix_8_7, ix_9_0, ix_9_1, ix_9_2, ix_9_3, ix_9_4, ix_9_5, ix_9_6, ix_9_7, ix_9_8, ix_10_0, ix_10_1, ix_10_2, ix_10_3, ix_10_4, ix_10_5, ix_10_6, ix_10_7, ix_10_8, ix_10_9, ix_11_0, ix_11_1, ix_11_2, ix_11_3, ix_11_4, ix_11_5, ix_11_6, ix_11_7, ix_11_8, ix_11_9, ix_11_10, ix_12_0, ix_12_1, ix_12_2, ix_12_3, ix_12_4, ix_12_5, ix_12_6, ix_12_7, ix_12_8, ix_12_9, ix_12_10, ix_12_11, isT_tuple_non, isT_tuple_bl, isT_tuple_int, isT_tuple_str, isT_tuple_tup, isT_tuple_lst, isT_int_non, isT_int_bl, isT_int_int, isT_int_str, isT_int_tup, isT_int_lst, isT_bool_non, isT_bool_bl, isT_bool_int, isT_bool_str, isT_bool_tup, isT_bool_lst, isT_str_non, isT_str_bl, isT_str_int, isT_str_str, isT_str_tup, isT_str_lst, isT_list_non, isT_list_bl, isT_list_int, isT_list_str, isT_list_tup, isT_list_lst, isN_non, isN_bl, isN_int, isN_str, isN_tup, isN_lst, at_ints, sz_iff, big_iff, div_iff, mod_iff, mul_iff, mulW_iff, divW_iff, pow_iff, List.getElem?_cons_succ, List.getElem?_cons_zero, List.set_cons_zero, List.set_cons_succ, List.cons_append, List.nil_append, List.replicate, Option.map_some, Option.bind_some, decide_eq_true_eq, decide_eq_false_iff_not, Option.some.injEq, exists_eq_left', Bool.not_eq_true', Bool.not_eq_false', Bool.not_true, Bool.not_false, Int.not_lt, Int.not_le, true_and, and_true, if_true, List.length_cons, List.length_nil, List.map_cons, List.map_nil, true_imp_iff, false_imp_iff, imp_self, imp_true_iff, not_true_eq_false, not_false_eq_true, List.length_map, Bool.false_eq_true, if_false, Bool.true_eq_false, reduceCtorEq, nos, backs, Sl.keep, decide_true, decide_false, ilist_map, O.lf, List.contains_cons, List.contains_nil, Bool.and_eq_true, beq_self_eq_true, Bool.or_false, Bool.or_true, Bool.true_or, Bool.false_or, and_self, if_pos, gAt_some, ds_fz, Nat.reduceBEq, Nat.reduceEqDiff, ite_self, rangeD_len, numbered_len, Int.toNat_natCast, Nat.reduceAdd, Int.reduceMod, Int.reduceDiv, Int.reduceLT, Int.reduceLE, Int.reduceNeg, Int.reduceMul, Int.reduceAdd, Int.reduceSub, Int.reducePow, Nat.reduceAdd, Nat.reduceLT, Nat.reduceLeDiff, Int.reduceEq, true_or, or_true, Int.reduceToNat, Int.toNat_zero, Int.toNat_one, List.length_set, List.length_append, List.length_singleton, Int.reduceAbs, e1, itD, lf_map, ds_fz]
    refine draw_wp (by assumption) (by omega) (by omega) fun x6 o6 hx6 kx6 ho6 => ?_; simp only [w_some, w_ofIf, w_ofMap, vAt_fz, w_var, w_C, k1_, w_1, k2b_, k2_, w_2, kA_, w_A, kMb_, kM_, w_M, w_aNil, kaCb_, kaC_, w_aCons, w_oNo, koAt_i, w_oAt, kSlc_, kSlb_, kSl_, w_Sl, ktB_, w_tB, bl_bl, ktT_, w_tTr, ktAnd_, w_tAnd, ktOr_, w_tOr, ktNot_, w_tNot, w_tYes, kIf_, w_If, kAnd_b, kOr_b, w_And, w_Or, ktL_, kbL_, kbF_, lentT_o, lentT_f, lentB_o, lentB_f, w_tBor, w_Bor, flat_int, flat_bl, flat_str, flat_non, kS_nx, kS_bk, kS_ct, kS_rt, w_Seq, kJ_s, w_J, w_Nx, w_Bk, w_Ct, kSet_, w_Set, kAugb_, kAugc_, kAug_, w_Aug, kParb_, kPar_, w_Par, gAt_some, kAsg_, w_Asg, kDrop_, w_Drop, kRet_, w_Ret, w_RetN, kIfS_, w_IfS, kApp_, kApp2_, appAt_, w_App, kPut_, putAt_, kPut2_, kPut3_, w_Put, w_Frz, frz_eq, frz1_ow, frz1_fz, kSetO_, w_SetO, kUp_, w_Up, kO_, w_O, dAt_, kFz_, w_Fz, rAt_ow, kRetO_, w_RetO, fEnd_rt, fEnd_nx, w_Fn, w_noEx, w_arNil, karb_, kar_, w_arCons, kasb_, kas_, w_arSlot, callAt_, kBack_, kCall_, w_Call, pull_nil, pull_fz, pull_sl, pull1_ow, push_nil, push_fz, push_sl, push1_ow, outs_nil, outs_f, outs_o, gN_ap, gTp_ap, gsNil_ap, gsCons_ap, kFor_, w_For, kiR_, w_iR, kiS_l, kiS_t, kiE_l, kiE_t, kiC_s, w_iC, w_iS, w_iE, kRnd_nx, kRnd_ct, kRnd_bk, kRnd_rt, kLcB_, kLcBO_, kLc_, kLcO_, w_Lc, w_LcO, kLcT_, kLcE_, v_add, v_sub, v_mul, v_div, v_mod, v_pow, v_ltA, v_leA, v_gtA, v_geA, v_eqA, v_neA, v_eqAs, v_eqAb, v_plusI, v_max2i, v_min2i, v_one, v_lenL, v_lenT, v_intI, v_tupL, v_tupT, v_lstL, v_lstT, v_sumL, v_sumT, v_maxL, v_minL, u_isN, u_notN, v_isT, v_not, u_neg, v_slL, v_slT, v_ixL, v_ixT, v_r1, v_r2, v_mulW, v_divW, v_gcdI, v_absI, v_sumR, v_foLstT, v_foLstL, v_foLst, v_tupOf, v_lstOf, o_fz, o_ol, o_nil, o_cons, at0, at1, at2, at3, at4, at5, at6, at7, ix_1_0, ix_2_0, ix_2_1, ix_3_0, ix_3_1, ix_3_2, ix_4_0, ix_4_1, ix_4_2, ix_4_3, ix_5_0, ix_5_1, ix_5_2, ix_5_3, ix_5_4, ix_6_0, ix_6_1, ix_6_2, ix_6_3, ix_6_4, ix_6_5, ix_7_0, ix_7_1, ix_7_2, ix_7_3, ix_7_4, ix_7_5, ix_7_6, ix_8_0, ix_8_1, ix_8_2, ix_8_3, ix_8_4, ix_8_5, ix_8_6, ix_8_7, ix_9_0, ix_9_1, ix_9_2, ix_9_3, ix_9_4, ix_9_5, ix_9_6, ix_9_7, ix_9_8, ix_10_0, ix_10_1, ix_10_2, ix_10_3, ix_10_4, ix_10_5, ix_10_6, ix_10_7, ix_10_8, ix_10_9, ix_11_0, ix_11_1, ix_11_2, ix_11_3, ix_11_4, ix_11_5, ix_11_6, ix_11_7, ix_11_8, ix_11_9, ix_11_10, ix_12_0, ix_12_1, ix_12_2, ix_12_3, ix_12_4, ix_12_5, ix_12_6, ix_12_7, ix_12_8, ix_12_9, ix_12_10, ix_12_11, isT_tuple_non, isT_tuple_bl, isT_tuple_int, isT_tuple_str, isT_tuple_tup, isT_tuple_lst, isT_int_non, isT_int_bl, isT_int_int, isT_int_str, isT_int_tup, isT_int_lst, isT_bool_non, isT_bool_bl, isT_bool_int, isT_bool_str, isT_bool_tup, isT_bool_lst, isT_str_non, isT_str_bl, isT_str_int, isT_str_str, isT_str_tup, isT_str_lst, isT_list_non, isT_list_bl, isT_list_int, isT_list_str, isT_list_tup, isT_list_lst, isN_non, isN_bl, isN_int, isN_str, isN_tup, isN_lst, at_ints, sz_iff, big_iff, div_iff, mod_iff, mul_iff, mulW_iff, divW_iff, pow_iff, List.getElem?_cons_succ, List.getElem?_cons_zero, List.set_cons_zero, List.set_cons_succ, List.cons_append, List.nil_append, List.replicate, Option.map_some, Option.bind_some, decide_eq_true_eq, decide_eq_false_iff_not, Option.some.injEq, exists_eq_left', Bool.not_eq_true', Bool.not_eq_false', Bool.not_true, Bool.not_false, Int.not_lt, Int.not_le, true_and, and_true, if_true, List.length_cons, List.length_nil, List.map_cons, List.map_nil, true_imp_iff, false_imp_iff, imp_self, imp_true_iff, not_true_eq_false, not_false_eq_true, List.length_map, Bool.false_eq_true, if_false, Bool.true_eq_false, reduceCtorEq, nos, backs, Sl.keep, decide_true, decide_false, ilist_map, O.lf, List.contains_cons, List.contains_nil, Bool.and_eq_true, beq_self_eq_true, Bool.or_false, Bool.or_true, Bool.true_or, Bool.false_or, and_self, if_pos, gAt_some, ds_fz, Nat.reduceBEq, Nat.reduceEqDiff, ite_self, rangeD_len, numbered_len, Int.toNat_natCast, Nat.reduceAdd, Int.reduceMod, Int.reduceDiv, Int.reduceLT, Int.reduceLE, Int.reduceNeg, Int.reduceMul, Int.reduceAdd, Int.reduceSub, Int.reducePow, Nat.reduceAdd, Nat.reduceLT, Nat.reduceLeDiff, Int.reduceEq, true_or, or_true, Int.reduceToNat, Int.toNat_zero, Int.toNat_one, List.length_set, List.length_append, List.length_singleton, Int.reduceAbs]
    have e7 : ixN ps.length (p : Int) = some p := by rw [ixN_nat (by omega) (by omega)]; simp
    have hw : 0 ≤ (ps[p].2 * 3 + x6) % 100000 ∧ (ps[p].2 * 3 + x6) % 100000 < 100000 := by omega
    generalize (ps[p].2 * 3 + x6) % 100000 = v at hw ⊢
    have eS : ((ps.map itD).map O.fz).set p (O.fz (.tup [.str ps[p].1, .int v])) = ((ps.set p (ps[p].1, v)).map itD).map O.fz := by rw [List.map_set, List.map_set]; rfl
    have hI3 : Items (ps.set p (ps[p].1, v)) := by
      refine ⟨?_, fun q hq => ?_, by simpa using hIl⟩
      · rw [List.map_set]
        have : (ps.map (·.1)).set p ps[p].1 = ps.map (·.1) := by
          apply List.ext_getElem?
          intro j
          rw [List.getElem?_set]
          split
          · subst_vars
            simp [hp]
          · rfl
        rw [this]
        exact hI.w
      · rcases List.mem_or_eq_of_mem_set hq with h | h
        · exact hI.v q h
        · rw [h]; exact hw
    have e8 : atI ((ps.set p (ps[p].1, v)).map itD) (p : Int) = some (itD (ps[p].1, v)) := DL.atI_nat (by rw [List.getElem?_map, List.getElem?_set_self hp]; rfl)
    have r3 := right_ok (x := .lst ((ps.set p (ps[p].1, v)).map itD)) hI3 (.inl rfl) ha0 hab hb
    have hf : D.flat (itD (ps[p].1, v)) = true := by simp [itD, D.flat, D.flats]
    have eS2 : ((ps.map itD).map O.fz).set p (O.fz (itD (ps[p].1, v))) = ((ps.set p (ps[p].1, v)).map itD).map O.fz := eS
    simp only [w_some, w_ofIf, w_ofMap, vAt_fz, w_var, w_C, k1_, w_1, k2b_, k2_, w_2, kA_, w_A, kMb_, kM_, w_M, w_aNil, kaCb_, kaC_, w_aCons, w_oNo, koAt_i, w_oAt, kSlc_, kSlb_, kSl_, w_Sl, ktB_, w_tB, bl_bl, ktT_, w_tTr, ktAnd_, w_tAnd, ktOr_, w_tOr, ktNot_, w_tNot, w_tYes, kIf_, w_If, kAnd_b, kOr_b, w_And, w_Or, ktL_, kbL_, kbF_, lentT_o, lentT_f, lentB_o, lentB_f, w_tBor, w_Bor, flat_int, flat_bl, flat_str, flat_non, kS_nx, kS_bk, kS_ct, kS_rt, w_Seq, kJ_s, w_J, w_Nx, w_Bk, w_Ct, kSet_, w_Set, kAugb_, kAugc_, kAug_, w_Aug, kParb_, kPar_, w_Par, gAt_some, kAsg_, w_Asg, kDrop_, w_Drop, kRet_, w_Ret, w_RetN, kIfS_, w_IfS, kApp_, kApp2_, appAt_, w_App, kPut_, putAt_, kPut2_, kPut3_, w_Put, w_Frz, frz_eq, frz1_ow, frz1_fz, kSetO_, w_SetO, kUp_, w_Up, kO_, w_O, dAt_, kFz_, w_Fz, rAt_ow, kRetO_, w_RetO, fEnd_rt, fEnd_nx, w_Fn, w_noEx, w_arNil, karb_, kar_, w_arCons, kasb_, kas_, w_arSlot, callAt_, kBack_, kCall_, w_Call, pull_nil, pull_fz, pull_sl, pull1_ow, push_nil, push_fz, push_sl, push1_ow, outs_nil, outs_f, outs_o, gN_ap, gTp_ap, gsNil_ap, gsCons_ap, kFor_, w_For, kiR_, w_iR, kiS_l, kiS_t, kiE_l, kiE_t, kiC_s, w_iC, w_iS, w_iE, kRnd_nx, kRnd_ct, kRnd_bk, kRnd_rt, kLcB_, kLcBO_, kLc_, kLcO_, w_Lc, w_LcO, kLcT_, kLcE_, v_add, v_sub, v_mul, v_div, v_mod, v_pow, v_ltA, v_leA, v_gtA, v_geA, v_eqA, v_neA, v_eqAs, v_eqAb, v_plusI, v_max2i, v_min2i, v_one, v_lenL, v_lenT, v_intI, v_tupL, v_tupT, v_lstL, v_lstT, v_sumL, v_sumT, v_maxL, v_minL, u_isN, u_notN, v_isT, v_not, u_neg, v_slL, v_slT, v_ixL, v_ixT, v_r1, v_r2, v_mulW, v_divW, v_gcdI, v_absI, v_sumR, v_foLstT, v_foLstL, v_foLst, v_tupOf, v_lstOf, o_fz, o_ol, o_nil, o_cons, at0, at1, at2, at3, at4, at5, at6, at7, ix_1_0, ix_2_0, ix_2_1, ix_3_0, ix_3_1, ix_3_2, ix_4_0, ix_4_1, ix_4_2, ix_4_3, ix_5_0, ix_5_1, ix_5_2, ix_5_3, ix_5_4, ix_6_0, ix_6_1, ix_6_2, ix_6_3, ix_6_4, ix_6_5, ix_7_0, ix_7_1, ix_7_2, ix_7_3, ix_7_4, ix_7_5, ix_7_6, ix_8_0, ix_8_1, ix_8_2, ix_8_3, ix_8_4, ix_8_5, ix_8_6, ix_8_7, ix_9_0, ix_9_1, ix_9_2, ix_9_3, ix_9_4, ix_9_5, ix_9_6, ix_9_7, ix_9_8, ix_10_0, ix_10_1, ix_10_2, ix_10_3, ix_10_4, ix_10_5, ix_10_6, ix_10_7, ix_10_8, ix_10_9, ix_11_0, ix_11_1, ix_11_2, ix_11_3, ix_11_4, ix_11_5, ix_11_6, ix_11_7, ix_11_8, ix_11_9, ix_11_10, ix_12_0, ix_12_1, ix_12_2, ix_12_3, ix_12_4, ix_12_5, ix_12_6, ix_12_7, ix_12_8, ix_12_9, ix_12_10, ix_12_11, isT_tuple_non, isT_tuple_bl, isT_tuple_int, isT_tuple_str, isT_tuple_tup, isT_tuple_lst, isT_int_non, isT_int_bl, isT_int_int, isT_int_str, isT_int_tup, isT_int_lst, isT_bool_non, isT_bool_bl, isT_bool_int, isT_bool_str, isT_bool_tup, isT_bool_lst, isT_str_non, isT_str_bl, isT_str_int, isT_str_str, isT_str_tup, isT_str_lst, isT_list_non, isT_list_bl, isT_list_int, isT_list_str, isT_list_tup, isT_list_lst, isN_non, isN_bl, isN_int, isN_str, isN_tup, isN_lst, at_ints, sz_iff, big_iff, div_iff, mod_iff, mul_iff, mulW_iff, divW_iff, pow_iff, List.getElem?_cons_succ, List.getElem?_cons_zero, List.set_cons_zero, List.set_cons_succ, List.cons_append, List.nil_append, List.replicate, Option.map_some, Option.bind_some, decide_eq_true_eq, decide_eq_false_iff_not, Option.some.injEq, exists_eq_left', Bool.not_eq_true', Bool.not_eq_false', Bool.not_true, Bool.not_false, Int.not_lt, Int.not_le, true_and, and_true, if_true, List.length_cons, List.length_nil, List.map_cons, List.map_nil, true_imp_iff, false_imp_iff, imp_self, imp_true_iff, not_true_eq_false, not_false_eq_true, List.length_map, Bool.false_eq_true, if_false, Bool.true_eq_false, reduceCtorEq, nos, backs, Sl.keep, decide_true, decide_false, ilist_map, O.lf, List.contains_cons, List.contains_nil, Bool.and_eq_true, beq_self_eq_true, Bool.or_false, Bool.or_true, Bool.true_or, Bool.false_or, and_self, if_pos, gAt_some, ds_fz, Nat.reduceBEq, Nat.reduceEqDiff, ite_self, rangeD_len, numbered_len, Int.toNat_natCast, Nat.reduceAdd, Int.reduceMod, Int.reduceDiv, Int.reduceLT, Int.reduceLE, Int.reduceNeg, Int.reduceMul, Int.reduceAdd, Int.reduceSub, Int.reducePow, Nat.reduceAdd, Nat.reduceLT, Nat.reduceLeDiff, Int.reduceEq, true_or, or_true, Int.reduceToNat, Int.toNat_zero, Int.toNat_one, List.length_set, List.length_append, List.length_singleton, Int.reduceAbs, e7, eS, ds_fz, e8, hf, eS2, r3]
    exact ⟨_, _, _, _, _, _, _, _, _, _, _, ho6, rfl⟩
  · rintro Γ ⟨o, s2, s3, s4, s5, s6, s7, s8, s9, s10, s11, ho, rfl⟩
    simp only [w_some, w_ofIf, w_ofMap, vAt_fz, w_var, w_C, k1_, w_1, k2b_, k2_, w_2, kA_, w_A, kMb_, kM_, w_M, w_aNil, kaCb_, kaC_, w_aCons, w_oNo, koAt_i, w_oAt, kSlc_, kSlb_, kSl_, w_Sl, ktB_, w_tB, bl_bl, ktT_, w_tTr, ktAnd_, w_tAnd, ktOr_, w_tOr, ktNot_, w_tNot, w_tYes, kIf_, w_If, kAnd_b, kOr_b, w_And, w_Or, ktL_, kbL_, kbF_, lentT_o, lentT_f, lentB_o, lentB_f, w_tBor, w_Bor, flat_int, flat_bl, flat_str, flat_non, kS_nx, kS_bk, kS_ct, kS_rt, w_Seq, kJ_s, w_J, w_Nx, w_Bk, w_Ct, kSet_, w_Set, kAugb_, kAugc_, kAug_, w_Aug, kParb_, kPar_, w_Par, gAt_some, kAsg_, w_Asg, kDrop_, w_Drop, kRet_, w_Ret, w_RetN, kIfS_, w_IfS, kApp_, kApp2_, appAt_, w_App, kPut_, putAt_, kPut2_, kPut3_, w_Put, w_Frz, frz_eq, frz1_ow, frz1_fz, kSetO_, w_SetO, kUp_, w_Up, kO_, w_O, dAt_, kFz_, w_Fz, rAt_ow, kRetO_, w_RetO, fEnd_rt, fEnd_nx, w_Fn, w_noEx, w_arNil, karb_, kar_, w_arCons, kasb_, kas_, w_arSlot, callAt_, kBack_, kCall_, w_Call, pull_nil, pull_fz, pull_sl, pull1_ow, push_nil, push_fz, push_sl, push1_ow, outs_nil, outs_f, outs_o, gN_ap, gTp_ap, gsNil_ap, gsCons_ap, kFor_, w_For, kiR_, w_iR, kiS_l, kiS_t, kiE_l, kiE_t, kiC_s, w_iC, w_iS, w_iE, kRnd_nx, kRnd_ct, kRnd_bk, kRnd_rt, kLcB_, kLcBO_, kLc_, kLcO_, w_Lc, w_LcO, kLcT_, kLcE_, v_add, v_sub, v_mul, v_div, v_mod, v_pow, v_ltA, v_leA, v_gtA, v_geA, v_eqA, v_neA, v_eqAs, v_eqAb, v_plusI, v_max2i, v_min2i, v_one, v_lenL, v_lenT, v_intI, v_tupL, v_tupT, v_lstL, v_lstT, v_sumL, v_sumT, v_maxL, v_minL, u_isN, u_notN, v_isT, v_not, u_neg, v_slL, v_slT, v_ixL, v_ixT, v_r1, v_r2, v_mulW, v_divW, v_gcdI, v_absI, v_sumR, v_foLstT, v_foLstL, v_foLst, v_tupOf, v_lstOf, o_fz, o_ol, o_nil, o_cons, at0, at1, at2, at3, at4, at5, at6, at7, ix_1_0, ix_2_0, ix_2_1, ix_3_0, ix_3_1, ix_3_2, ix_4_0, ix_4_1, ix_4_2, ix_4_3, ix_5_0, ix_5_1, ix_5_2, ix_5_3, ix_5_4, ix_6_0, ix_6_1, ix_6_2, ix_6_3, ix_6_4, ix_6_5, ix_7_0, ix_7_1, ix_7_2, ix_7_3, ix_7_4, ix_7_5, ix_7_6, ix_8_0, ix_8_1, ix_8_2, ix_8_3, ix_8_4, ix_8_5, ix_8_6, ix_8_7, ix_9_0, ix_9_1, ix_9_2, ix_9_3, ix_9_4, ix_9_5, ix_9_6, ix_9_7, ix_9_8, ix_10_0, ix_10_1, ix_10_2, ix_10_3, ix_10_4, ix_10_5, ix_10_6, ix_10_7, ix_10_8, ix_10_9, ix_11_0, ix_11_1, ix_11_2, ix_11_3, ix_11_4, ix_11_5, ix_11_6, ix_11_7, ix_11_8, ix_11_9, ix_11_10, ix_12_0, ix_12_1, ix_12_2, ix_12_3, ix_12_4, ix_12_5, ix_12_6, ix_12_7, ix_12_8, ix_12_9, ix_12_10, ix_12_11, isT_tuple_non, isT_tuple_bl, isT_tuple_int, isT_tuple_str, isT_tuple_tup, isT_tuple_lst, isT_int_non, isT_int_bl, isT_int_int, isT_int_str, isT_int_tup, isT_int_lst, isT_bool_non, isT_bool_bl, isT_bool_int, isT_bool_str, isT_bool_tup, isT_bool_lst, isT_str_non, isT_str_bl, isT_str_int, isT_str_str, isT_str_tup, isT_str_lst, isT_list_non, isT_list_bl, isT_list_int, isT_list_str, isT_list_tup, isT_list_lst, isN_non, isN_bl, isN_int, isN_str, isN_tup, isN_lst, at_ints, sz_iff, big_iff, div_iff, mod_iff, mul_iff, mulW_iff, divW_iff, pow_iff, List.getElem?_cons_succ, List.getElem?_cons_zero, List.set_cons_zero, List.set_cons_succ, List.cons_append, List.nil_append, List.replicate, Option.map_some, Option.bind_some, decide_eq_true_eq, decide_eq_false_iff_not, Option.some.injEq, exists_eq_left', Bool.not_eq_true', Bool.not_eq_false', Bool.not_true, Bool.not_false, Int.not_lt, Int.not_le, true_and, and_true, if_true, List.length_cons, List.length_nil, List.map_cons, List.map_nil, true_imp_iff, false_imp_iff, imp_self, imp_true_iff, not_true_eq_false, not_false_eq_true, List.length_map, Bool.false_eq_true, if_false, Bool.true_eq_false, reduceCtorEq, nos, backs, Sl.keep, decide_true, decide_false, ilist_map, O.lf, List.contains_cons, List.contains_nil, Bool.and_eq_true, beq_self_eq_true, Bool.or_false, Bool.or_true, Bool.true_or, Bool.false_or, and_self, if_pos, gAt_some, ds_fz, Nat.reduceBEq, Nat.reduceEqDiff, ite_self, rangeD_len, numbered_len, Int.toNat_natCast, Nat.reduceAdd, Int.reduceMod, Int.reduceDiv, Int.reduceLT, Int.reduceLE, Int.reduceNeg, Int.reduceMul, Int.reduceAdd, Int.reduceSub, Int.reducePow, Nat.reduceAdd, Nat.reduceLT, Nat.reduceLeDiff, Int.reduceEq, true_or, or_true, Int.reduceToNat, Int.toNat_zero, Int.toNat_one, List.length_set, List.length_append, List.length_singleton, Int.reduceAbs]
end K86
end
section
set_option Elab.async false
set_option linter.all false
set_option maxRecDepth 100000
set_option maxHeartbeats 4000000
/-! The walk, printed by gen.py. -/
namespace K86
open PySem L2 DL
def top (i : Nat) : Stmt := PySem.Challenge.pw_oncecounted_k86_count_classes.main.body.getD i (.Pass ⟨0, 0, 0, 0⟩)
abbrev s_x_law_draw : Stmt := top 6
abbrev ns_x_law_draw : List Str := ["feed", "many", "cell", "told"]
theorem sc_x_law_draw : FnScope ns_x_law_draw ["feed", "many"] (defScope s_x_law_draw) := ⟨rfl, rfl, rfl, by decide +kernel, rfl, by decide +kernel, by decide +kernel⟩
abbrev s_x_law_unlike : Stmt := top 7
abbrev ns_x_law_unlike : List Str := ["words", "letters", "first", "second"]
theorem sc_x_law_unlike : FnScope ns_x_law_unlike ["words"] (defScope s_x_law_unlike) := ⟨rfl, rfl, rfl, by decide +kernel, rfl, by decide +kernel, by decide +kernel⟩
abbrev s_x_law_words : Stmt := top 8
abbrev ns_x_law_words : List Str := ["feed", "many", "letters", "words", "k", "word", "place", "at"]
theorem sc_x_law_words : FnScope ns_x_law_words ["feed", "many"] (defScope s_x_law_words) := ⟨rfl, rfl, rfl, by decide +kernel, rfl, by decide +kernel, by decide +kernel⟩
abbrev s_x_law_items : Stmt := top 10
abbrev ns_x_law_items : List Str := ["feed", "most", "many", "kind", "number", "values", "words", "k"]
theorem sc_x_law_items : FnScope ns_x_law_items ["feed", "most"] (defScope s_x_law_items) := ⟨rfl, rfl, rfl, by decide +kernel, rfl, by decide +kernel, by decide +kernel⟩
abbrev s_x_law_falling : Stmt := top 11
abbrev ns_x_law_falling : List Str := ["items", "falling", "value", "word"]
theorem sc_x_law_falling : FnScope ns_x_law_falling ["items"] (defScope s_x_law_falling) := ⟨rfl, rfl, rfl, by decide +kernel, rfl, by decide +kernel, by decide +kernel⟩
abbrev s_x_law_percent : Stmt := top 14
abbrev ns_x_law_percent : List Str := ["feed", "items", "kind", "total", "falling", "reached", "word", "value"]
theorem sc_x_law_percent : FnScope ns_x_law_percent ["feed", "items"] (defScope s_x_law_percent) := ⟨rfl, rfl, rfl, by decide +kernel, rfl, by decide +kernel, by decide +kernel⟩
abbrev s_by_value : Stmt := top 2
abbrev ns_by_value : List Str := ["items", "value", "item"]
theorem sc_by_value : FnScope ns_by_value ["items"] (defScope s_by_value) := ⟨rfl, rfl, rfl, by decide +kernel, rfl, by decide +kernel, by decide +kernel⟩
abbrev s_beginning : Stmt := top 3
abbrev ns_beginning : List Str := ["pairs", "percent", "total", "told", "length", "_", "value"]
theorem sc_beginning : FnScope ns_beginning ["pairs", "percent"] (defScope s_beginning) := ⟨rfl, rfl, rfl, by decide +kernel, rfl, by decide +kernel, by decide +kernel⟩
abbrev s_classes : Stmt := top 4
abbrev ns_classes : List Str := ["items", "first", "second", "pairs", "bounds", "found", "place", "item", "_", "bound"]
theorem sc_classes : FnScope ns_classes ["items", "first", "second"] (defScope s_classes) := ⟨rfl, rfl, rfl, by decide +kernel, rfl, by decide +kernel, by decide +kernel⟩
abbrev s_x_law_same : Stmt := top 9
abbrev ns_x_law_same : List Str := ["due", "told", "k"]
theorem sc_x_law_same : FnScope ns_x_law_same ["due", "told"] (defScope s_x_law_same) := ⟨rfl, rfl, rfl, by decide +kernel, rfl, by decide +kernel, by decide +kernel⟩
abbrev s_x_law_shortest : Stmt := top 12
abbrev ns_x_law_shortest : List Str := ["falling", "percent", "total", "reached", "k", "word", "value"]
theorem sc_x_law_shortest : FnScope ns_x_law_shortest ["falling", "percent"] (defScope s_x_law_shortest) := ⟨rfl, rfl, rfl, by decide +kernel, rfl, by decide +kernel, by decide +kernel⟩
abbrev s_x_law_classes : Stmt := top 13
abbrev ns_x_law_classes : List Str := ["items", "first", "second", "falling", "short", "long", "found", "k"]
theorem sc_x_law_classes : FnScope ns_x_law_classes ["items", "first", "second"] (defScope s_x_law_classes) := ⟨rfl, rfl, rfl, by decide +kernel, rfl, by decide +kernel, by decide +kernel⟩
abbrev s_x_law_right : Stmt := top 15
abbrev ns_x_law_right : List Str := ["handed", "items", "first", "second"]
theorem sc_x_law_right : FnScope ns_x_law_right ["handed", "items", "first", "second"] (defScope s_x_law_right) := ⟨rfl, rfl, rfl, by decide +kernel, rfl, by decide +kernel, by decide +kernel⟩
abbrev s_law : Stmt := top 16
abbrev ns_law : List Str := ["script", "feed", "k", "items", "one", "other", "first", "second", "handed", "turned", "place", "changed", "at"]
theorem sc_law : FnScope ns_law ["script"] (defScope s_law) := ⟨rfl, rfl, rfl, by decide +kernel, rfl, by decide +kernel, by decide +kernel⟩
/-- where the defs stand -/
structure Ad where
  a_x_law_draw : Addr
  d_x_law_draw : FuncData
  a_x_law_unlike : Addr
  d_x_law_unlike : FuncData
  a_x_law_words : Addr
  d_x_law_words : FuncData
  a_x_law_items : Addr
  d_x_law_items : FuncData
  a_x_law_falling : Addr
  d_x_law_falling : FuncData
  a_x_law_percent : Addr
  d_x_law_percent : FuncData
  a_by_value : Addr
  d_by_value : FuncData
  a_beginning : Addr
  d_beginning : FuncData
  a_classes : Addr
  d_classes : FuncData
  a_x_law_same : Addr
  d_x_law_same : FuncData
  a_x_law_shortest : Addr
  d_x_law_shortest : FuncData
  a_x_law_classes : Addr
  d_x_law_classes : FuncData
  a_x_law_right : Addr
  d_x_law_right : FuncData
  a_law : Addr
  d_law : FuncData
structure Txt (K : PySem.W.Frag) (mg : Str → Option Value) (A : Ad) : Prop where
  f_x_law_draw : Fun K "_law_draw" "_law_draw" s_x_law_draw A.a_x_law_draw A.d_x_law_draw
  g_x_law_draw : mg "_law_draw" = some (.ref A.a_x_law_draw)
  b_x_law_draw : Binds K A.d_x_law_draw ["feed", "many"] []
  f_x_law_unlike : Fun K "_law_unlike" "_law_unlike" s_x_law_unlike A.a_x_law_unlike A.d_x_law_unlike
  g_x_law_unlike : mg "_law_unlike" = some (.ref A.a_x_law_unlike)
  b_x_law_unlike : Binds K A.d_x_law_unlike ["words"] []
  f_x_law_words : Fun K "_law_words" "_law_words" s_x_law_words A.a_x_law_words A.d_x_law_words
  g_x_law_words : mg "_law_words" = some (.ref A.a_x_law_words)
  b_x_law_words : Binds K A.d_x_law_words ["feed", "many"] []
  f_x_law_items : Fun K "_law_items" "_law_items" s_x_law_items A.a_x_law_items A.d_x_law_items
  g_x_law_items : mg "_law_items" = some (.ref A.a_x_law_items)
  b_x_law_items : Binds K A.d_x_law_items ["feed", "most"] []
  f_x_law_falling : Fun K "_law_falling" "_law_falling" s_x_law_falling A.a_x_law_falling A.d_x_law_falling
  g_x_law_falling : mg "_law_falling" = some (.ref A.a_x_law_falling)
  b_x_law_falling : Binds K A.d_x_law_falling ["items"] []
  f_x_law_percent : Fun K "_law_percent" "_law_percent" s_x_law_percent A.a_x_law_percent A.d_x_law_percent
  g_x_law_percent : mg "_law_percent" = some (.ref A.a_x_law_percent)
  b_x_law_percent : Binds K A.d_x_law_percent ["feed", "items"] []
  f_by_value : Fun K "by_value" "by_value" s_by_value A.a_by_value A.d_by_value
  g_by_value : mg "by_value" = some (.ref A.a_by_value)
  b_by_value : Binds K A.d_by_value ["items"] []
  f_beginning : Fun K "beginning" "beginning" s_beginning A.a_beginning A.d_beginning
  g_beginning : mg "beginning" = some (.ref A.a_beginning)
  b_beginning : Binds K A.d_beginning ["pairs", "percent"] []
  f_classes : Fun K "classes" "classes" s_classes A.a_classes A.d_classes
  g_classes : mg "classes" = some (.ref A.a_classes)
  b_classes : Binds K A.d_classes ["items", "first", "second"] []
  f_x_law_same : Fun K "_law_same" "_law_same" s_x_law_same A.a_x_law_same A.d_x_law_same
  g_x_law_same : mg "_law_same" = some (.ref A.a_x_law_same)
  b_x_law_same : Binds K A.d_x_law_same ["due", "told"] []
  f_x_law_shortest : Fun K "_law_shortest" "_law_shortest" s_x_law_shortest A.a_x_law_shortest A.d_x_law_shortest
  g_x_law_shortest : mg "_law_shortest" = some (.ref A.a_x_law_shortest)
  b_x_law_shortest : Binds K A.d_x_law_shortest ["falling", "percent"] []
  f_x_law_classes : Fun K "_law_classes" "_law_classes" s_x_law_classes A.a_x_law_classes A.d_x_law_classes
  g_x_law_classes : mg "_law_classes" = some (.ref A.a_x_law_classes)
  b_x_law_classes : Binds K A.d_x_law_classes ["items", "first", "second"] []
  f_x_law_right : Fun K "_law_right" "_law_right" s_x_law_right A.a_x_law_right A.d_x_law_right
  g_x_law_right : mg "_law_right" = some (.ref A.a_x_law_right)
  b_x_law_right : Binds K A.d_x_law_right ["handed", "items", "first", "second"] []
  f_law : Fun K "law" "law" s_law A.a_law A.d_law
  g_law : mg "law" = some (.ref A.a_law)
  b_law : Binds K A.d_law ["script"] []
  z_bool : mg "bool" = none
  z_enumerate : mg "enumerate" = none
  z_int : mg "int" = none
  z_isinstance : mg "isinstance" = none
  z_len : mg "len" = none
  z_list : mg "list" = none
  z_max : mg "max" = none
  z_min : mg "min" = none
  z_range : mg "range" = none
  z_sorted : mg "sorted" = none
  z_str : mg "str" = none
  z_sum : mg "sum" = none
  z_tuple : mg "tuple" = none
  k_CLASSES : ConOk K mg "CLASSES" (.tup [.str "a", .str "b", .str "c"])
section
variable {P : Program} {w : World} {K : PySem.W.Frag} {mg : Str → Option Value} {base : Heap} {A : Ad}
theorem okm_x_law_draw (T : Txt K mg A) : FnOk P w K mg base CX0 1 A.a_x_law_draw A.d_x_law_draw ["feed", "many"] (spN K 2 (m_x_law_draw)) := fn_ok (δ := δ_x_law_draw) T.f_x_law_draw sc_x_law_draw rfl fun cdv Ar outer s H E hr => by
    have nd := sc_x_law_draw.nd
    exact (sb_cons (ss_if (SW.pt (sw_and (st_bor 0 (st_ltA (sd_item (sd_var 0) sd_int (fun _ _ => rfl)) (sd_var 1))) (sw_and1 (st_bor 0 (st_ltA (sd_item (sd_var 0) sd_int (fun _ _ => rfl)) (sd_len (by rfl) T.z_len (sa_cons (sd_item (sd_var 0) sd_int (fun _ _ => rfl)) sa_nil))))))) (sb_cons (ss_set (i := 2) nd rfl (by first | exact Or.inl rfl | exact Or.inr rfl) (sd_bor 0 (sd_intOf (by rfl) T.z_int (sa_cons (sd_item (sd_item (sd_var 0) sd_int (fun _ _ => rfl)) (sd_item (sd_var 0) sd_int (fun _ _ => rfl)) (fun _ _ => rfl)) sa_nil))))
    (sb_cons (ss_put 0 (pv 0) sd_int (sd_bor 0 (sd_plus (sd_item (sd_var 0) sd_int (fun _ _ => rfl)) sd_int)))
    (sb_cons (ss_put 0 (pv 0) sd_int (sd_bor 0 (sd_mod (sd_intOf (by rfl) T.z_int (sa_cons (sd_plus (sd_plus (sd_mul (sd_item (sd_var 0) sd_int (fun _ _ => rfl)) sd_int) (sd_mod (sd_intOf (by rfl) T.z_int (sa_cons (sd_var 2) sa_nil)) sd_int)) sd_int) sa_nil)) sd_int)))
    (sb_cons (ss_put 0 (pv 0) sd_int sd_int)
    (sb_one (ss_if (st_geA (sd_var 2) (sd_pow sd_int sd_int)) (sb_one (ss_put 0 (pv 0) sd_int (sd_var 2))) sb_nil)))))) sb_nil)
    (sb_cons (ss_if (st_bor 0 (st_geA (sd_item (sd_var 0) sd_int (fun _ _ => rfl)) (sd_var 1))) (sb_cons (ss_set (i := 3) nd rfl (by first | exact Or.inl rfl | exact Or.inr rfl) (sd_bor 0 (sd_mod (sd_intOf (by rfl) T.z_int (sa_cons (sd_item (sd_var 0) sd_int (fun _ _ => rfl)) sa_nil)) (sd_var 1))))
    (sb_cons (ss_put 0 (pv 0) sd_int (sd_bor 0 (sd_div (sd_item (sd_var 0) sd_int (fun _ _ => rfl)) (sd_var 1))))
    (sb_one (ss_ret (sd_var 3))))) sb_nil)
    (sb_cons (ss_put 0 (pv 0) sd_int (sd_bor 0 (sd_mod (sd_intOf (by rfl) T.z_int (sa_cons (sd_plus (sd_mul (sd_item (sd_var 0) sd_int (fun _ _ => rfl)) sd_int) sd_int) sa_nil)) sd_int)))
    (sb_one (ss_ret (sd_bor 0 (sd_mod (sd_intOf (by rfl) T.z_int (sa_cons (sd_div (sd_item (sd_var 0) sd_int (fun _ _ => rfl)) sd_int) sa_nil)) (sd_var 1))))))))
theorem okm_x_law_unlike (T : Txt K mg A) : FnOk P w K mg base CX0 1 A.a_x_law_unlike A.d_x_law_unlike ["words"] (spN K 1 (pureF (m_x_law_unlike))) := spN_le (fn_ok (δ := δ_x_law_unlike) T.f_x_law_unlike sc_x_law_unlike rfl fun cdv Ar outer s H E hr => by
    have nd := sc_x_law_unlike.nd
    exact (sb_cons (ss_set (i := 1) nd rfl (by first | exact Or.inl rfl | exact Or.inr rfl) sd_str)
    (sb_cons (ss_for PassesOwn.never rfl (si_str (sd_var 1)) (sg_name (i := 2) nd rfl (by first | exact Or.inl rfl | exact Or.inr rfl)) (sb_one (ss_for PassesOwn.never rfl (si_str (sd_var 1)) (sg_name (i := 3) nd rfl (by first | exact Or.inl rfl | exact Or.inr rfl)) (sb_one (ss_if (st_notIn (sd_plus (sd_var 2) (sd_var 3)) (sd_var 0)) (sb_one (ss_ret (sd_plus (sd_var 2) (sd_var 3)))) sb_nil)))))
    (sb_one (ss_ret sd_str))))) le_toP
theorem okm_x_law_words (T : Txt K mg A) : FnOk P w K mg base CX0 2 A.a_x_law_words A.d_x_law_words ["feed", "many"] (spN K 2 (m_x_law_words)) := fn_ok (δ := δ_x_law_words) T.f_x_law_words sc_x_law_words rfl fun cdv Ar outer s H E hr => by
    have nd := sc_x_law_words.nd
    exact (sb_cons (ss_set (i := 2) nd rfl (by first | exact Or.inl rfl | exact Or.inr rfl) sd_str)
    (sb_cons (ss_setO (i := 3) nd rfl (by first | exact Or.inl rfl | exact Or.inr rfl) (so_lst sa_nil))
    (sb_cons (ss_for PassesOwn.never rfl (si_range1 (by rfl) T.z_range (sa_cons (sd_var 1) sa_nil)) (sg_name (i := 4) nd rfl (by first | exact Or.inl rfl | exact Or.inr rfl)) (sb_cons (ss_set (i := 5) nd rfl (by first | exact Or.inl rfl | exact Or.inr rfl) (sd_join sd_str (sd_lc (own := [("at", 7)]) rfl nd (si_range1 (by rfl) T.z_range (sa_cons (sd_plus sd_int (sd_ofO (so_callN (okm_x_law_draw T) (hr.mono (by decide)) (by rfl) T.g_x_law_draw T.f_x_law_draw.kp T.b_x_law_draw (fun _ => passesAt0) (al_slot (al_cons al_nil)) (sar_slot 0 (pv 0) (sar_cons sd_int sar_nil))))) sa_nil)) (blkOk_by (own := [("at", 7)]) (N := ns_x_law_words) (sc := defScope s_x_law_words) (by decide +kernel)) (by decide) ⟨fun _ _ _ _ _ => (sg_name (i := 7) nd rfl (by first | exact Or.inl rfl | exact Or.inr rfl)), fun _ _ _ _ _ => sts_nil, fun _ _ _ _ _ => (sd_item (sd_var 2) (sd_ofO (so_callN (okm_x_law_draw T) (hr.mono (by decide)) (by rfl) T.g_x_law_draw T.f_x_law_draw.kp T.b_x_law_draw (fun _ => passesAt0) (al_slot (al_cons al_nil)) (sar_slot 0 (pv 0) (sar_cons sd_int sar_nil)))) (fun _ _ => rfl))⟩)))
    (sb_cons (ss_if (SW.pt (sw_and (st_gtA (sd_var 4) sd_int) (sw_and1 (st_eqA hr (sd_ofO (so_callN (okm_x_law_draw T) (hr.mono (by decide)) (by rfl) T.g_x_law_draw T.f_x_law_draw.kp T.b_x_law_draw (fun _ => passesAt0) (al_slot (al_cons al_nil)) (sar_slot 0 (pv 0) (sar_cons sd_int sar_nil)))) sd_int)))) (sb_one (ss_set (i := 5) nd rfl (by first | exact Or.inl rfl | exact Or.inr rfl) (sd_bor 3 (sd_sl (sd_plus (sd_item (sd_var 3) (sd_neg sd_int) (fun _ _ => rfl)) (sd_var 5)) so_none (so_some sd_int))))) sb_nil)
    (sb_cons (ss_if (SW.pt (sw_and (st_gtA (sd_var 4) sd_int) (sw_and1 (st_eqA hr (sd_ofO (so_callN (okm_x_law_draw T) (hr.mono (by decide)) (by rfl) T.g_x_law_draw T.f_x_law_draw.kp T.b_x_law_draw (fun _ => passesAt0) (al_slot (al_cons al_nil)) (sar_slot 0 (pv 0) (sar_cons sd_int sar_nil)))) sd_int)))) (sb_cons (ss_set (i := 6) nd rfl (by first | exact Or.inl rfl | exact Or.inr rfl) (sd_ofO (so_callN (okm_x_law_draw T) (hr.mono (by decide)) (by rfl) T.g_x_law_draw T.f_x_law_draw.kp T.b_x_law_draw (fun _ => passesAt0) (al_slot (al_cons al_nil)) (sar_slot 0 (pv 0) (sar_cons (sd_bor 3 (sd_len (by rfl) T.z_len (sa_cons (sd_item (sd_var 3) sd_int (fun _ _ => rfl)) sa_nil))) sar_nil)))))
    (sb_one (ss_set (i := 5) nd rfl (by first | exact Or.inl rfl | exact Or.inr rfl) (sd_bor 3 (sd_plus (sd_plus (sd_sl (sd_item (sd_var 3) sd_int (fun _ _ => rfl)) so_none (so_some (sd_var 6))) (sd_item (sd_var 5) sd_int (fun _ _ => rfl))) (sd_sl (sd_item (sd_var 3) sd_int (fun _ _ => rfl)) (so_some (sd_plus (sd_var 6) sd_int)) so_none)))))) sb_nil)
    (sb_cons (ss_if (st_bor 3 (st_in (sd_var 5) (sd_var 3))) (sb_one (ss_set (i := 5) nd rfl (by first | exact Or.inl rfl | exact Or.inr rfl) (sd_bor 3 (sd_callP (okm_x_law_unlike T) toP_len (hr.mono (by decide)) (by rfl) T.g_x_law_unlike T.f_x_law_unlike.kp T.b_x_law_unlike (fun _ => passesAt0) (sa_cons (sd_var 3) sa_nil))))) sb_nil)
    (sb_one (ss_app 3 (pv 3) (sd_var 5))))))))
    (sb_one (ss_retO 3 (pv 3))))))
theorem okm_x_law_items (T : Txt K mg A) : FnOk P w K mg base CX0 3 A.a_x_law_items A.d_x_law_items ["feed", "most"] (spN K 2 (m_x_law_items)) := fn_ok (δ := δ_x_law_items) T.f_x_law_items sc_x_law_items rfl fun cdv Ar outer s H E hr => by
    have nd := sc_x_law_items.nd
    exact (sb_cons (ss_set (i := 2) nd rfl (by first | exact Or.inl rfl | exact Or.inr rfl) (sd_item (sd_tup (sa_cons sd_int (sa_cons sd_int (sa_cons (sd_ofO (so_callN (okm_x_law_draw T) (hr.mono (by decide)) (by rfl) T.g_x_law_draw T.f_x_law_draw.kp T.b_x_law_draw (fun _ => passesAt0) (al_slot (al_cons al_nil)) (sar_slot 0 (pv 0) (sar_cons (sd_plus (sd_var 1) sd_int) sar_nil)))) (sa_cons (sd_var 1) sa_nil))))) (sd_ofO (so_callN (okm_x_law_draw T) (hr.mono (by decide)) (by rfl) T.g_x_law_draw T.f_x_law_draw.kp T.b_x_law_draw (fun _ => passesAt0) (al_slot (al_cons al_nil)) (sar_slot 0 (pv 0) (sar_cons sd_int sar_nil)))) (fun _ _ => rfl)))
    (sb_cons (ss_set (i := 3) nd rfl (by first | exact Or.inl rfl | exact Or.inr rfl) (sd_ofO (so_callN (okm_x_law_draw T) (hr.mono (by decide)) (by rfl) T.g_x_law_draw T.f_x_law_draw.kp T.b_x_law_draw (fun _ => passesAt0) (al_slot (al_cons al_nil)) (sar_slot 0 (pv 0) (sar_cons sd_int sar_nil)))))
    (sb_cons (ss_set (i := 4) nd rfl (by first | exact Or.inl rfl | exact Or.inr rfl) (sd_ofO (so_callN (okm_x_law_draw T) (hr.mono (by decide)) (by rfl) T.g_x_law_draw T.f_x_law_draw.kp T.b_x_law_draw (fun _ => passesAt0) (al_slot (al_cons al_nil)) (sar_slot 0 (pv 0) (sar_cons sd_int sar_nil)))))
    (sb_cons (ss_setO (i := 5) nd rfl (by first | exact Or.inl rfl | exact Or.inr rfl) (so_lc (own := [("k", 7)]) rfl nd (si_range1 (by rfl) T.z_range (sa_cons (sd_var 2) sa_nil)) (blkOk_by (own := [("k", 7)]) (N := ns_x_law_items) (sc := defScope s_x_law_items) (by decide +kernel)) (by decide) ⟨fun _ _ _ _ _ => (sg_name (i := 7) nd rfl (by first | exact Or.inl rfl | exact Or.inr rfl)), fun _ _ _ _ _ => sts_nil, fun _ _ _ _ _ => (sd_item (sd_tup (sa_cons sd_int (sa_cons (sd_var 4) (sa_cons (sd_ofO (so_callN (okm_x_law_draw T) (hr.mono (by decide)) (by rfl) T.g_x_law_draw T.f_x_law_draw.kp T.b_x_law_draw (fun _ => passesAt0) (al_slot (al_cons al_nil)) (sar_slot 0 (pv 0) (sar_cons sd_int sar_nil)))) (sa_cons (sd_ofO (so_callN (okm_x_law_draw T) (hr.mono (by decide)) (by rfl) T.g_x_law_draw T.f_x_law_draw.kp T.b_x_law_draw (fun _ => passesAt0) (al_slot (al_cons al_nil)) (sar_slot 0 (pv 0) (sar_cons sd_int sar_nil)))) (sa_cons (sd_ofO (so_callN (okm_x_law_draw T) (hr.mono (by decide)) (by rfl) T.g_x_law_draw T.f_x_law_draw.kp T.b_x_law_draw (fun _ => passesAt0) (al_slot (al_cons al_nil)) (sar_slot 0 (pv 0) (sar_cons sd_int sar_nil)))) sa_nil)))))) (sd_var 3) (fun _ _ => rfl))⟩))
    (sb_cons (ss_if (SW.pt (sw_and (st_eqA hr (sd_var 3) sd_int) (sw_and1 (st_gtA (sd_var 2) sd_int)))) (sb_one (ss_put 5 (pv 5) (sd_ofO (so_callN (okm_x_law_draw T) (hr.mono (by decide)) (by rfl) T.g_x_law_draw T.f_x_law_draw.kp T.b_x_law_draw (fun _ => passesAt0) (al_slot (al_cons al_nil)) (sar_slot 0 (pv 0) (sar_cons (sd_var 2) sar_nil)))) (sd_var 4))) sb_nil)
    (sb_cons (ss_set (i := 6) nd rfl (by first | exact Or.inl rfl | exact Or.inr rfl) (sd_ofO (so_callN (okm_x_law_words T) (hr.mono (by decide)) (by rfl) T.g_x_law_words T.f_x_law_words.kp T.b_x_law_words (fun _ => passesAt0) (al_slot (al_cons al_nil)) (sar_slot 0 (pv 0) (sar_cons (sd_var 2) sar_nil)))))
    (sb_one (ss_frz 5 (ss_ret (sd_lc (own := [("k", 7)]) rfl nd (si_range1 (by rfl) T.z_range (sa_cons (sd_var 2) sa_nil)) (blkOk_by (own := [("k", 7)]) (N := ns_x_law_items) (sc := defScope s_x_law_items) (by decide +kernel)) (by decide) ⟨fun _ _ _ _ _ => (sg_name (i := 7) nd rfl (by first | exact Or.inl rfl | exact Or.inr rfl)), fun _ _ _ _ _ => sts_nil, fun _ _ _ _ _ => (sd_tup (sa_cons (sd_item (sd_var 6) (sd_var 7) (fun _ _ => rfl)) (sa_cons (sd_item (sd_var 5) (sd_var 7) (fun _ _ => rfl)) sa_nil)))⟩))))))))))
theorem okm_x_law_falling (T : Txt K mg A) : FnOk P w K mg base CX0 1 A.a_x_law_falling A.d_x_law_falling ["items"] (spN K 1 (pureF (m_x_law_falling))) := spN_le (fn_ok (δ := δ_x_law_falling) T.f_x_law_falling sc_x_law_falling rfl fun cdv Ar outer s H E hr => by
    have nd := sc_x_law_falling.nd
    exact (sb_cons (ss_set (i := 1) nd rfl (by first | exact Or.inl rfl | exact Or.inr rfl) (sd_sorted hr (by rfl) T.z_sorted (sa_cons (sd_lc (own := [("word", 3), ("value", 2)]) rfl nd (si_seq (sd_var 0)) (blkOk_by (own := [("word", 3), ("value", 2)]) (N := ns_x_law_falling) (sc := defScope s_x_law_falling) (by decide +kernel)) (by decide) ⟨fun _ _ _ _ _ => (sg_tup rfl (sgs_cons (sg_name (i := 3) nd rfl (by first | exact Or.inl rfl | exact Or.inr rfl)) (sgs_cons (sg_name (i := 2) nd rfl (by first | exact Or.inl rfl | exact Or.inr rfl)) sgs_nil))), fun _ _ _ _ _ => sts_nil, fun _ _ _ _ _ => (sd_tup (sa_cons (sd_sub sd_int (sd_var 2)) (sa_cons (sd_var 3) sa_nil)))⟩) sa_nil)))
    (sb_one (ss_ret (sd_lc (own := [("value", 2), ("word", 3)]) rfl nd (si_seq (sd_var 1)) (blkOk_by (own := [("value", 2), ("word", 3)]) (N := ns_x_law_falling) (sc := defScope s_x_law_falling) (by decide +kernel)) (by decide) ⟨fun _ _ _ _ _ => (sg_tup rfl (sgs_cons (sg_name (i := 2) nd rfl (by first | exact Or.inl rfl | exact Or.inr rfl)) (sgs_cons (sg_name (i := 3) nd rfl (by first | exact Or.inl rfl | exact Or.inr rfl)) sgs_nil))), fun _ _ _ _ _ => sts_nil, fun _ _ _ _ _ => (sd_tup (sa_cons (sd_var 3) (sa_cons (sd_sub sd_int (sd_var 2)) sa_nil)))⟩))))) le_toP
theorem okm_x_law_percent (T : Txt K mg A) : FnOk P w K mg base CX0 2 A.a_x_law_percent A.d_x_law_percent ["feed", "items"] (spN K 2 (m_x_law_percent)) := fn_ok (δ := δ_x_law_percent) T.f_x_law_percent sc_x_law_percent rfl fun cdv Ar outer s H E hr => by
    have nd := sc_x_law_percent.nd
    exact (sb_cons (ss_set (i := 2) nd rfl (by first | exact Or.inl rfl | exact Or.inr rfl) (sd_ofO (so_callN (okm_x_law_draw T) (hr.mono (by decide)) (by rfl) T.g_x_law_draw T.f_x_law_draw.kp T.b_x_law_draw (fun _ => passesAt0) (al_slot (al_cons al_nil)) (sar_slot 0 (pv 0) (sar_cons sd_int sar_nil)))))
    (sb_cons (ss_set (i := 3) nd rfl (by first | exact Or.inl rfl | exact Or.inr rfl) (sd_sum rfl (by rfl) T.z_sum (sa_cons (sd_lc (own := [("word", 6), ("value", 7)]) rfl nd (si_seq (sd_var 1)) (blkOk_by (own := [("word", 6), ("value", 7)]) (N := ns_x_law_percent) (sc := defScope s_x_law_percent) (by decide +kernel)) (by decide) ⟨fun _ _ _ _ _ => (sg_tup rfl (sgs_cons (sg_name (i := 6) nd rfl (by first | exact Or.inl rfl | exact Or.inr rfl)) (sgs_cons (sg_name (i := 7) nd rfl (by first | exact Or.inl rfl | exact Or.inr rfl)) sgs_nil))), fun _ _ _ _ _ => sts_nil, fun _ _ _ _ _ => (sd_var 7)⟩) sa_nil)))
    (sb_cons (ss_if (SW.pt (sw_and (st_ltA (sd_var 2) sd_int) (sw_and1 (st_gtA (sd_var 3) sd_int)))) (sb_cons (ss_set (i := 4) nd rfl (by first | exact Or.inl rfl | exact Or.inr rfl) (sd_callP (okm_x_law_falling T) toP_len (hr.mono (by decide)) (by rfl) T.g_x_law_falling T.f_x_law_falling.kp T.b_x_law_falling (fun _ => passesAt0) (sa_cons (sd_var 1) sa_nil)))
    (sb_cons (ss_set (i := 5) nd rfl (by first | exact Or.inl rfl | exact Or.inr rfl) (sd_sum rfl (by rfl) T.z_sum (sa_cons (sd_lc (own := [("word", 6), ("value", 7)]) rfl nd (si_seq (sd_sl (sd_var 4) so_none (so_some (sd_plus sd_int (sd_ofO (so_callN (okm_x_law_draw T) (hr.mono (by decide)) (by rfl) T.g_x_law_draw T.f_x_law_draw.kp T.b_x_law_draw (fun _ => passesAt0) (al_slot (al_cons al_nil)) (sar_slot 0 (pv 0) (sar_cons (sd_len (by rfl) T.z_len (sa_cons (sd_var 4) sa_nil)) sar_nil)))))))) (blkOk_by (own := [("word", 6), ("value", 7)]) (N := ns_x_law_percent) (sc := defScope s_x_law_percent) (by decide +kernel)) (by decide) ⟨fun _ _ _ _ _ => (sg_tup rfl (sgs_cons (sg_name (i := 6) nd rfl (by first | exact Or.inl rfl | exact Or.inr rfl)) (sgs_cons (sg_name (i := 7) nd rfl (by first | exact Or.inl rfl | exact Or.inr rfl)) sgs_nil))), fun _ _ _ _ _ => sts_nil, fun _ _ _ _ _ => (sd_var 7)⟩) sa_nil)))
    (sb_one (ss_ret (sd_max2 rfl (by rfl) T.z_max (sa_cons sd_int (sa_cons (sd_sub (sd_div (sd_mul sd_int (sd_var 5)) (sd_var 3)) (sd_mul (sd_var 2) (sd_ofO (so_callN (okm_x_law_draw T) (hr.mono (by decide)) (by rfl) T.g_x_law_draw T.f_x_law_draw.kp T.b_x_law_draw (fun _ => passesAt0) (al_slot (al_cons al_nil)) (sar_slot 0 (pv 0) (sar_cons sd_int sar_nil)))))) sa_nil))))))) sb_nil)
    (sb_one (ss_ret (sd_item (sd_tup (sa_cons sd_int (sa_cons sd_int (sa_cons (sd_ofO (so_callN (okm_x_law_draw T) (hr.mono (by decide)) (by rfl) T.g_x_law_draw T.f_x_law_draw.kp T.b_x_law_draw (fun _ => passesAt0) (al_slot (al_cons al_nil)) (sar_slot 0 (pv 0) (sar_cons sd_int sar_nil)))) (sa_cons (sd_ofO (so_callN (okm_x_law_draw T) (hr.mono (by decide)) (by rfl) T.g_x_law_draw T.f_x_law_draw.kp T.b_x_law_draw (fun _ => passesAt0) (al_slot (al_cons al_nil)) (sar_slot 0 (pv 0) (sar_cons sd_int sar_nil)))) (sa_cons (sd_plus sd_int (sd_ofO (so_callN (okm_x_law_draw T) (hr.mono (by decide)) (by rfl) T.g_x_law_draw T.f_x_law_draw.kp T.b_x_law_draw (fun _ => passesAt0) (al_slot (al_cons al_nil)) (sar_slot 0 (pv 0) (sar_cons sd_int sar_nil))))) sa_nil)))))) (sd_var 2) (fun _ _ => rfl)))))))
theorem okm_by_value (T : Txt K mg A) : FnOk P w K mg base CX0 1 A.a_by_value A.d_by_value ["items"] (spN K 1 (pureF (m_by_value))) := spN_le (fn_ok (δ := δ_by_value) T.f_by_value sc_by_value rfl fun cdv Ar outer s H E hr => by
    have nd := sc_by_value.nd
    exact (sb_one (ss_ret (sd_lc (own := [("value", 1), ("item", 2)]) rfl nd (si_seq (sd_sorted hr (by rfl) T.z_sorted (sa_cons (sd_lc (own := [("item", 2), ("value", 1)]) rfl nd (si_seq (sd_var 0)) (blkOk_by (own := [("item", 2), ("value", 1)]) (N := ns_by_value) (sc := defScope s_by_value) (by decide +kernel)) (by decide) ⟨fun _ _ _ _ _ => (sg_tup rfl (sgs_cons (sg_name (i := 2) nd rfl (by first | exact Or.inl rfl | exact Or.inr rfl)) (sgs_cons (sg_name (i := 1) nd rfl (by first | exact Or.inl rfl | exact Or.inr rfl)) sgs_nil))), fun _ _ _ _ _ => sts_nil, fun _ _ _ _ _ => (sd_tup (sa_cons (sd_sub sd_int (sd_var 1)) (sa_cons (sd_var 2) sa_nil)))⟩) sa_nil))) (blkOk_by (own := [("value", 1), ("item", 2)]) (N := ns_by_value) (sc := defScope s_by_value) (by decide +kernel)) (by decide) ⟨fun _ _ _ _ _ => (sg_tup rfl (sgs_cons (sg_name (i := 1) nd rfl (by first | exact Or.inl rfl | exact Or.inr rfl)) (sgs_cons (sg_name (i := 2) nd rfl (by first | exact Or.inl rfl | exact Or.inr rfl)) sgs_nil))), fun _ _ _ _ _ => sts_nil, fun _ _ _ _ _ => (sd_tup (sa_cons (sd_var 2) (sa_cons (sd_sub sd_int (sd_var 1)) sa_nil)))⟩)))) le_toP
theorem okm_beginning (T : Txt K mg A) : FnOk P w K mg base CX0 1 A.a_beginning A.d_beginning ["pairs", "percent"] (spN K 2 (pureF (m_beginning))) := spN_le (fn_ok (δ := δ_beginning) T.f_beginning sc_beginning rfl fun cdv Ar outer s H E hr => by
    have nd := sc_beginning.nd
    exact (sb_cons (ss_set (i := 2) nd rfl (by first | exact Or.inl rfl | exact Or.inr rfl) (sd_sum rfl (by rfl) T.z_sum (sa_cons (sd_lc (own := [("_", 5), ("value", 6)]) rfl nd (si_seq (sd_var 0)) (blkOk_by (own := [("_", 5), ("value", 6)]) (N := ns_beginning) (sc := defScope s_beginning) (by decide +kernel)) (by decide) ⟨fun _ _ _ _ _ => (sg_tup rfl (sgs_cons (sg_name (i := 5) nd rfl (by first | exact Or.inl rfl | exact Or.inr rfl)) (sgs_cons (sg_name (i := 6) nd rfl (by first | exact Or.inl rfl | exact Or.inr rfl)) sgs_nil))), fun _ _ _ _ _ => sts_nil, fun _ _ _ _ _ => (sd_var 6)⟩) sa_nil)))
    (sb_cons (ss_set (i := 3) nd rfl (by first | exact Or.inl rfl | exact Or.inr rfl) sd_int)
    (sb_cons (ss_for PassesOwn.never rfl (si_range1 (by rfl) T.z_range (sa_cons (sd_plus (sd_len (by rfl) T.z_len (sa_cons (sd_var 0) sa_nil)) sd_int) sa_nil)) (sg_name (i := 4) nd rfl (by first | exact Or.inl rfl | exact Or.inr rfl)) (sb_cons (ss_if (st_geA (sd_mul (sd_var 3) sd_int) (sd_mul (sd_var 2) (sd_var 1))) (sb_one (ss_ret (sd_var 4))) sb_nil)
    (sb_one (ss_addN (i := 3) nd rfl (by first | exact Or.inl rfl | exact Or.inr rfl) (sd_item (sd_item (sd_var 0) (sd_var 4) (fun _ _ => rfl)) sd_int (fun _ _ => rfl))))))
    (sb_one (ss_ret (sd_len (by rfl) T.z_len (sa_cons (sd_var 0) sa_nil)))))))) le_toP
theorem okm_classes (T : Txt K mg A) : FnOk P w K mg base CX0 2 A.a_classes A.d_classes ["items", "first", "second"] (spN K 3 (pureF (m_classes))) := spN_le (fn_ok (δ := δ_classes) T.f_classes sc_classes rfl fun cdv Ar outer s H E hr => by
    have nd := sc_classes.nd
    exact (sb_cons (ss_set (i := 3) nd rfl (by first | exact Or.inl rfl | exact Or.inr rfl) (sd_callP (okm_by_value T) toP_len (hr.mono (by decide)) (by rfl) T.g_by_value T.f_by_value.kp T.b_by_value (fun _ => passesAt0) (sa_cons (sd_var 0) sa_nil)))
    (sb_cons (ss_set (i := 4) nd rfl (by first | exact Or.inl rfl | exact Or.inr rfl) (sd_tup (sa_cons (sd_callP (okm_beginning T) toP_len (hr.mono (by decide)) (by rfl) T.g_beginning T.f_beginning.kp T.b_beginning (fun _ => passesAt0) (sa_cons (sd_var 3) (sa_cons (sd_var 1) sa_nil))) (sa_cons (sd_callP (okm_beginning T) toP_len (hr.mono (by decide)) (by rfl) T.g_beginning T.f_beginning.kp T.b_beginning (fun _ => passesAt0) (sa_cons (sd_var 3) (sa_cons (sd_var 2) sa_nil))) sa_nil))))
    (sb_cons (ss_setO (i := 5) nd rfl (by first | exact Or.inl rfl | exact Or.inr rfl) (so_lst sa_nil))
    (sb_cons (ss_for PassesOwn.never rfl (si_enum (by rfl) T.z_enumerate (sa_cons (sd_var 3) sa_nil)) (sg_tup rfl (sgs_cons (sg_name (i := 6) nd rfl (by first | exact Or.inl rfl | exact Or.inr rfl)) (sgs_cons (sg_tup rfl (sgs_cons (sg_name (i := 7) nd rfl (by first | exact Or.inl rfl | exact Or.inr rfl)) (sgs_cons (sg_name (i := 8) nd rfl (by first | exact Or.inl rfl | exact Or.inr rfl)) sgs_nil))) sgs_nil))) (sb_one (ss_app 5 (pv 5) (sd_tup (sa_cons (sd_var 7) (sa_cons (sd_item (sd_con (by rfl) T.k_CLASSES) (sd_len (by rfl) T.z_len (sa_cons (sd_lc (own := [("bound", 9)]) rfl nd (si_seq (sd_var 4)) (blkOk_by (own := [("bound", 9)]) (N := ns_classes) (sc := defScope s_classes) (by decide +kernel)) (by decide) ⟨fun _ _ _ _ _ => (sg_name (i := 9) nd rfl (by first | exact Or.inl rfl | exact Or.inr rfl)), fun _ _ _ _ _ => (sts_one (st_leA (sd_var 9) (sd_var 6))), fun _ _ _ _ _ => (sd_var 9)⟩) sa_nil)) (fun _ _ => rfl)) sa_nil))))))
    (sb_one (ss_frz 5 (ss_ret (sd_tupleOf (by rfl) T.z_tuple (sa_cons (sd_sorted hr (by rfl) T.z_sorted (sa_cons (sd_var 5) sa_nil)) sa_nil)))))))))) le_toP
theorem rlen_x_law_same : ∀ (n : Nat) ds d, r_x_law_same n ds = some d → ds.length = 2
  | 0, ds, d, h => nomatch h
  | n + 1, ds, d, h => toP_len (n := 2) (f := dFn 1 (δ_x_law_same (r_x_law_same n))) ds d h
theorem okr_x_law_same (T : Txt K mg A) : ∀ n : Nat, FnOk P w K mg base CX0 n A.a_x_law_same A.d_x_law_same ["due", "told"] (spN K 2 (pureF (r_x_law_same n)))
  | 0 => fn_none
  | n + 1 => spN_le (fn_ok (δ := δ_x_law_same (r_x_law_same n)) T.f_x_law_same sc_x_law_same rfl fun cdv Ar outer s H E hr => by
    have nd := sc_x_law_same.nd
    have ih := okr_x_law_same T n
    have hl := rlen_x_law_same n
    exact (sb_cons (ss_if (st_val (sd_isi kit_tuple (by rfl) T.z_isinstance boot_isi (sd_var 0) (by rfl) T.z_tuple (by decide +kernel))) (sb_cons (ss_if (SW.pt (sw_or (st_not (st_val (sd_isi kit_tuple (by rfl) T.z_isinstance boot_isi (sd_var 1) (by rfl) T.z_tuple (by decide +kernel)))) (sw_or1 (st_neA hr (sd_len (by rfl) T.z_len (sa_cons (sd_var 1) sa_nil)) (sd_len (by rfl) T.z_len (sa_cons (sd_var 0) sa_nil)))))) (sb_one (ss_ret sd_bl)) sb_nil)
    (sb_cons (ss_for PassesOwn.never rfl (si_range1 (by rfl) T.z_range (sa_cons (sd_len (by rfl) T.z_len (sa_cons (sd_var 0) sa_nil)) sa_nil)) (sg_name (i := 2) nd rfl (by first | exact Or.inl rfl | exact Or.inr rfl)) (sb_one (ss_if (st_not (st_val (sd_callP ih hl hr (by rfl) T.g_x_law_same T.f_x_law_same.kp T.b_x_law_same (fun _ => passesAt0) (sa_cons (sd_item (sd_var 0) (sd_var 2) (fun _ _ => rfl)) (sa_cons (sd_item (sd_var 1) (sd_var 2) (fun _ _ => rfl)) sa_nil))))) (sb_one (ss_ret sd_bl)) sb_nil)))
    (sb_one (ss_ret sd_bl)))) sb_nil)
    (sb_cons (ss_if (st_isN (sd_var 0) sd_non) (sb_one (ss_ret (sd_isN (sd_var 1) sd_non))) sb_nil)
    (sb_cons (ss_if (st_val (sd_isi kit_bool (by rfl) T.z_isinstance boot_isi (sd_var 0) (by rfl) T.z_bool (by decide +kernel))) (sb_one (ss_ret (sd_and (sd_isi kit_bool (by rfl) T.z_isinstance boot_isi (sd_var 1) (by rfl) T.z_bool (by decide +kernel)) (sd_one (sd_eqA hr (sd_var 1) (sd_var 0)))))) sb_nil)
    (sb_cons (ss_if (st_val (sd_isi kit_int (by rfl) T.z_isinstance boot_isi (sd_var 0) (by rfl) T.z_int (by decide +kernel))) (sb_one (ss_ret (sd_and (sd_isi kit_int (by rfl) T.z_isinstance boot_isi (sd_var 1) (by rfl) T.z_int (by decide +kernel)) (sd_and (sd_not (sd_isi kit_bool (by rfl) T.z_isinstance boot_isi (sd_var 1) (by rfl) T.z_bool (by decide +kernel))) (sd_one (sd_eqA hr (sd_var 1) (sd_var 0))))))) sb_nil)
    (sb_one (ss_ret (sd_and (sd_isi kit_str (by rfl) T.z_isinstance boot_isi (sd_var 1) (by rfl) T.z_str (by decide +kernel)) (sd_one (sd_eqA hr (sd_var 1) (sd_var 0))))))))))) le_toP
theorem okm_x_law_same (T : Txt K mg A) : FnOk P w K mg base CX0 8 A.a_x_law_same A.d_x_law_same ["due", "told"] (spN K 2 (pureF m_x_law_same)) := okr_x_law_same T 8
theorem okm_x_law_shortest (T : Txt K mg A) : FnOk P w K mg base CX0 1 A.a_x_law_shortest A.d_x_law_shortest ["falling", "percent"] (spN K 2 (pureF (m_x_law_shortest))) := spN_le (fn_ok (δ := δ_x_law_shortest) T.f_x_law_shortest sc_x_law_shortest rfl fun cdv Ar outer s H E hr => by
    have nd := sc_x_law_shortest.nd
    exact (sb_cons (ss_set (i := 2) nd rfl (by first | exact Or.inl rfl | exact Or.inr rfl) (sd_sum rfl (by rfl) T.z_sum (sa_cons (sd_lc (own := [("word", 5), ("value", 6)]) rfl nd (si_seq (sd_var 0)) (blkOk_by (own := [("word", 5), ("value", 6)]) (N := ns_x_law_shortest) (sc := defScope s_x_law_shortest) (by decide +kernel)) (by decide) ⟨fun _ _ _ _ _ => (sg_tup rfl (sgs_cons (sg_name (i := 5) nd rfl (by first | exact Or.inl rfl | exact Or.inr rfl)) (sgs_cons (sg_name (i := 6) nd rfl (by first | exact Or.inl rfl | exact Or.inr rfl)) sgs_nil))), fun _ _ _ _ _ => sts_nil, fun _ _ _ _ _ => (sd_var 6)⟩) sa_nil)))
    (sb_cons (ss_set (i := 3) nd rfl (by first | exact Or.inl rfl | exact Or.inr rfl) sd_int)
    (sb_cons (ss_for PassesOwn.never rfl (si_range1 (by rfl) T.z_range (sa_cons (sd_len (by rfl) T.z_len (sa_cons (sd_var 0) sa_nil)) sa_nil)) (sg_name (i := 4) nd rfl (by first | exact Or.inl rfl | exact Or.inr rfl)) (sb_cons (ss_if (st_geA (sd_mul sd_int (sd_var 3)) (sd_mul (sd_var 1) (sd_var 2))) (sb_one (ss_ret (sd_var 4))) sb_nil)
    (sb_one (ss_set (i := 3) nd rfl (by first | exact Or.inl rfl | exact Or.inr rfl) (sd_plus (sd_var 3) (sd_item (sd_item (sd_var 0) (sd_var 4) (fun _ _ => rfl)) sd_int (fun _ _ => rfl)))))))
    (sb_one (ss_ret (sd_len (by rfl) T.z_len (sa_cons (sd_var 0) sa_nil)))))))) le_toP
theorem okm_x_law_classes (T : Txt K mg A) : FnOk P w K mg base CX0 2 A.a_x_law_classes A.d_x_law_classes ["items", "first", "second"] (spN K 3 (pureF (m_x_law_classes))) := spN_le (fn_ok (δ := δ_x_law_classes) T.f_x_law_classes sc_x_law_classes rfl fun cdv Ar outer s H E hr => by
    have nd := sc_x_law_classes.nd
    exact (sb_cons (ss_set (i := 3) nd rfl (by first | exact Or.inl rfl | exact Or.inr rfl) (sd_callP (okm_x_law_falling T) toP_len (hr.mono (by decide)) (by rfl) T.g_x_law_falling T.f_x_law_falling.kp T.b_x_law_falling (fun _ => passesAt0) (sa_cons (sd_var 0) sa_nil)))
    (sb_cons (ss_set (i := 4) nd rfl (by first | exact Or.inl rfl | exact Or.inr rfl) (sd_callP (okm_x_law_shortest T) toP_len (hr.mono (by decide)) (by rfl) T.g_x_law_shortest T.f_x_law_shortest.kp T.b_x_law_shortest (fun _ => passesAt0) (sa_cons (sd_var 3) (sa_cons (sd_var 1) sa_nil))))
    (sb_cons (ss_set (i := 5) nd rfl (by first | exact Or.inl rfl | exact Or.inr rfl) (sd_callP (okm_x_law_shortest T) toP_len (hr.mono (by decide)) (by rfl) T.g_x_law_shortest T.f_x_law_shortest.kp T.b_x_law_shortest (fun _ => passesAt0) (sa_cons (sd_var 3) (sa_cons (sd_var 2) sa_nil))))
    (sb_cons (ss_setO (i := 6) nd rfl (by first | exact Or.inl rfl | exact Or.inr rfl) (so_lst sa_nil))
    (sb_cons (ss_for PassesOwn.never rfl (si_range1 (by rfl) T.z_range (sa_cons (sd_len (by rfl) T.z_len (sa_cons (sd_var 3) sa_nil)) sa_nil)) (sg_name (i := 7) nd rfl (by first | exact Or.inl rfl | exact Or.inr rfl)) (sb_one (ss_if (st_ltA (sd_var 7) (sd_var 4)) (sb_one (ss_app 6 (pv 6) (sd_tup (sa_cons (sd_item (sd_item (sd_var 3) (sd_var 7) (fun _ _ => rfl)) sd_int (fun _ _ => rfl)) (sa_cons sd_str sa_nil))))) (sb_one (ss_if (st_ltA (sd_var 7) (sd_var 5)) (sb_one (ss_app 6 (pv 6) (sd_tup (sa_cons (sd_item (sd_item (sd_var 3) (sd_var 7) (fun _ _ => rfl)) sd_int (fun _ _ => rfl)) (sa_cons sd_str sa_nil))))) (sb_one (ss_app 6 (pv 6) (sd_tup (sa_cons (sd_item (sd_item (sd_var 3) (sd_var 7) (fun _ _ => rfl)) sd_int (fun _ _ => rfl)) (sa_cons sd_str sa_nil))))))))))
    (sb_one (ss_frz 6 (ss_ret (sd_tupleOf (by rfl) T.z_tuple (sa_cons (sd_sorted hr (by rfl) T.z_sorted (sa_cons (sd_var 6) sa_nil)) sa_nil))))))))))) le_toP
theorem okm_x_law_right (T : Txt K mg A) : FnOk P w K mg base CX0 9 A.a_x_law_right A.d_x_law_right ["handed", "items", "first", "second"] (spN K 4 (pureF (m_x_law_right))) := spN_le (fn_ok (δ := δ_x_law_right) T.f_x_law_right sc_x_law_right rfl fun cdv Ar outer s H E hr => by
    have nd := sc_x_law_right.nd
    exact (sb_one (ss_ret (sd_and (sd_callP (okm_x_law_same T) toP_len (hr.mono (by decide)) (by rfl) T.g_x_law_same T.f_x_law_same.kp T.b_x_law_same (fun _ => passesAt0) (sa_cons (sd_callP (okm_x_law_classes T) toP_len (hr.mono (by decide)) (by rfl) T.g_x_law_classes T.f_x_law_classes.kp T.b_x_law_classes (fun _ => passesAt0) (sa_cons (sd_var 1) (sa_cons (sd_var 2) (sa_cons (sd_var 3) sa_nil)))) (sa_cons (sd_callP (okm_classes T) toP_len (hr.mono (by decide)) (by rfl) T.g_classes T.f_classes.kp T.b_classes (fun _ => passesAt0) (sa_cons (sd_var 0) (sa_cons (sd_var 2) (sa_cons (sd_var 3) sa_nil)))) sa_nil))) (sd_one (sd_eqA hr (sd_listOf (by rfl) T.z_list (sa_cons (sd_var 0) sa_nil)) (sd_var 1))))))) le_toP
theorem okm_law (T : Txt K mg A) : FnOk P w K mg base CX0 10 A.a_law A.d_law ["script"] (spN K 1 (pureF (m_law))) := spN_le (fn_ok (δ := δ_law) T.f_law sc_law rfl fun cdv Ar outer s H E hr => by
    have nd := sc_law.nd
    exact (sb_cons (ss_setO (i := 1) nd rfl (by first | exact Or.inl rfl | exact Or.inr rfl) (so_lst (sa_cons (sd_listOf (by rfl) T.z_list (sa_cons (sd_var 0) sa_nil)) (sa_cons sd_int (sa_cons sd_int (sa_cons sd_int sa_nil))))))
    (sb_cons (ss_for PassesOwn.never rfl (si_range1 (by rfl) T.z_range (sa_cons sd_int sa_nil)) (sg_name (i := 2) nd rfl (by first | exact Or.inl rfl | exact Or.inr rfl)) (sb_cons (ss_set (i := 3) nd rfl (by first | exact Or.inl rfl | exact Or.inr rfl) (sd_ofO (so_callN (okm_x_law_items T) (hr.mono (by decide)) (by rfl) T.g_x_law_items T.f_x_law_items.kp T.b_x_law_items (fun _ => passesAt0) (al_slot (al_cons al_nil)) (sar_slot 1 (pv 1) (sar_cons sd_int sar_nil)))))
    (sb_cons (ss_set (i := 4) nd rfl (by first | exact Or.inl rfl | exact Or.inr rfl) (sd_ofO (so_callN (okm_x_law_percent T) (hr.mono (by decide)) (by rfl) T.g_x_law_percent T.f_x_law_percent.kp T.b_x_law_percent (fun _ => passesAt0) (al_slot (al_cons al_nil)) (sar_slot 1 (pv 1) (sar_cons (sd_var 3) sar_nil)))))
    (sb_cons (ss_set (i := 5) nd rfl (by first | exact Or.inl rfl | exact Or.inr rfl) (sd_ofO (so_callN (okm_x_law_percent T) (hr.mono (by decide)) (by rfl) T.g_x_law_percent T.f_x_law_percent.kp T.b_x_law_percent (fun _ => passesAt0) (al_slot (al_cons al_nil)) (sar_slot 1 (pv 1) (sar_cons (sd_var 3) sar_nil)))))
    (sb_cons (ss_set (i := 6) nd rfl (by first | exact Or.inl rfl | exact Or.inr rfl) (sd_min2 rfl (by rfl) T.z_min (sa_cons (sd_var 4) (sa_cons (sd_var 5) sa_nil))))
    (sb_cons (ss_set (i := 7) nd rfl (by first | exact Or.inl rfl | exact Or.inr rfl) (sd_max2 rfl (by rfl) T.z_max (sa_cons (sd_var 4) (sa_cons (sd_var 5) sa_nil))))
    (sb_cons (ss_if (st_eqA hr (sd_ofO (so_callN (okm_x_law_draw T) (hr.mono (by decide)) (by rfl) T.g_x_law_draw T.f_x_law_draw.kp T.b_x_law_draw (fun _ => passesAt0) (al_slot (al_cons al_nil)) (sar_slot 1 (pv 1) (sar_cons sd_int sar_nil)))) sd_int) (sb_one (ss_set (i := 7) nd rfl (by first | exact Or.inl rfl | exact Or.inr rfl) (sd_var 6))) sb_nil)
    (sb_cons (ss_setO (i := 8) nd rfl (by first | exact Or.inl rfl | exact Or.inr rfl) (so_listOf (by rfl) T.z_list (sa_cons (sd_var 3) sa_nil)))
    (sb_cons (ss_if (st_not (st_val (sd_bor 8 (sd_callP (okm_x_law_right T) toP_len (hr.mono (by decide)) (by rfl) T.g_x_law_right T.f_x_law_right.kp T.b_x_law_right (fun _ => passesAt0) (sa_cons (sd_var 8) (sa_cons (sd_var 3) (sa_cons (sd_var 6) (sa_cons (sd_var 7) sa_nil)))))))) (sb_one (ss_ret sd_bl)) sb_nil)
    (sb_cons (ss_setLc (i := 9) (own := [("at", 12)]) rfl nd rfl rfl (sw_true rfl rfl rfl (by decide +kernel)) (si_range1 (by rfl) T.z_range (sa_cons (sd_len (by rfl) T.z_len (sa_cons (sd_var 3) sa_nil)) sa_nil)) (blkOk_by (own := [("at", 12)]) (N := ns_law) (sc := defScope s_law) (by decide +kernel)) (by decide) ⟨fun _ _ _ _ _ => (sg_name (i := 12) nd rfl (by first | exact Or.inl rfl | exact Or.inr rfl)), fun _ _ _ _ _ => sts_nil, fun _ _ _ _ _ => (sd_item (sd_var 3) (sd_sub (sd_sub (sd_len (by rfl) T.z_len (sa_cons (sd_var 3) sa_nil)) sd_int) (sd_var 12)) (fun _ _ => rfl))⟩)
    (sb_cons (ss_if (st_not (st_val (sd_callP (okm_x_law_right T) toP_len (hr.mono (by decide)) (by rfl) T.g_x_law_right T.f_x_law_right.kp T.b_x_law_right (fun _ => passesAt0) (sa_cons (sd_tupleOf (by rfl) T.z_tuple (sa_cons (sd_var 9) sa_nil)) (sa_cons (sd_var 9) (sa_cons (sd_var 6) (sa_cons (sd_var 7) sa_nil))))))) (sb_one (ss_ret sd_bl)) sb_nil)
    (sb_one (ss_if (st_tr (sd_var 3)) (sb_cons (ss_set (i := 10) nd rfl (by first | exact Or.inl rfl | exact Or.inr rfl) (sd_ofO (so_callN (okm_x_law_draw T) (hr.mono (by decide)) (by rfl) T.g_x_law_draw T.f_x_law_draw.kp T.b_x_law_draw (fun _ => passesAt0) (al_slot (al_cons al_nil)) (sar_slot 1 (pv 1) (sar_cons (sd_len (by rfl) T.z_len (sa_cons (sd_var 3) sa_nil)) sar_nil)))))
    (sb_cons (ss_setO (i := 11) nd rfl (by first | exact Or.inl rfl | exact Or.inr rfl) (so_listOf (by rfl) T.z_list (sa_cons (sd_var 3) sa_nil)))
    (sb_cons (ss_put 11 (pv 11) (sd_var 10) (sd_tup (sa_cons (sd_item (sd_item (sd_var 3) (sd_var 10) (fun _ _ => rfl)) sd_int (fun _ _ => rfl)) (sa_cons (sd_mod (sd_intOf (by rfl) T.z_int (sa_cons (sd_plus (sd_mul (sd_item (sd_item (sd_var 3) (sd_var 10) (fun _ _ => rfl)) sd_int (fun _ _ => rfl)) sd_int) (sd_ofO (so_callN (okm_x_law_draw T) (hr.mono (by decide)) (by rfl) T.g_x_law_draw T.f_x_law_draw.kp T.b_x_law_draw (fun _ => passesAt0) (al_slot (al_cons al_nil)) (sar_slot 1 (pv 1) (sar_cons sd_int sar_nil))))) sa_nil)) sd_int) sa_nil))))
    (sb_cons (ss_put 8 (pv 8) (sd_var 10) (sd_bor 11 (sd_item (sd_var 11) (sd_var 10) (fun _ _ => rfl))))
    (sb_one (ss_if (st_not (st_val (sd_bor 8 (sd_bor 11 (sd_callP (okm_x_law_right T) toP_len (hr.mono (by decide)) (by rfl) T.g_x_law_right T.f_x_law_right.kp T.b_x_law_right (fun _ => passesAt0) (sa_cons (sd_var 8) (sa_cons (sd_var 11) (sa_cons (sd_var 6) (sa_cons (sd_var 7) sa_nil))))))))) (sb_one (ss_ret sd_bl)) sb_nil)))))) sb_nil)))))))))))))
    (sb_one (ss_ret sd_bl))))) le_toP
end
/-! ### what the top has written; the law -/
theorem all_mk (truth : ∀ ns : List Int, ns.length ≤ 63 → m_law [.lst (ns.map D.int)] = some (.bl true)) {l : PySem.W.OpenLaw} {w : World} {K : PySem.W.Frag} {h : Heap} {mg : Str → Option Value} {fa a0 a1 a2 a3 a4 a5 a6 a7 a8 a9 a10 a11 a12 a13 : Addr} (X : K.In h) (G : h.Ns mainGlobals mg) (hfa : mg "law" = some (.ref fa))
    {oc0 kV0 dc0 pm0 cd0 ct0 : Value} {od0 an0 : Option Addr} {sl0 : Array (Option Value)}
    {oc1 kV1 dc1 pm1 cd1 ct1 : Value} {od1 an1 : Option Addr} {sl1 : Array (Option Value)}
    {oc2 kV2 dc2 pm2 cd2 ct2 : Value} {od2 an2 : Option Addr} {sl2 : Array (Option Value)}
    {oc3 kV3 dc3 pm3 cd3 ct3 : Value} {od3 an3 : Option Addr} {sl3 : Array (Option Value)}
    {oc4 kV4 dc4 pm4 cd4 ct4 : Value} {od4 an4 : Option Addr} {sl4 : Array (Option Value)}
    {oc5 kV5 dc5 pm5 cd5 ct5 : Value} {od5 an5 : Option Addr} {sl5 : Array (Option Value)}
    {oc6 kV6 dc6 pm6 cd6 ct6 : Value} {od6 an6 : Option Addr} {sl6 : Array (Option Value)}
    {oc7 kV7 dc7 pm7 cd7 ct7 : Value} {od7 an7 : Option Addr} {sl7 : Array (Option Value)}
    {oc8 kV8 dc8 pm8 cd8 ct8 : Value} {od8 an8 : Option Addr} {sl8 : Array (Option Value)}
    {oc9 kV9 dc9 pm9 cd9 ct9 : Value} {od9 an9 : Option Addr} {sl9 : Array (Option Value)}
    {oc10 kV10 dc10 pm10 cd10 ct10 : Value} {od10 an10 : Option Addr} {sl10 : Array (Option Value)}
    {oc11 kV11 dc11 pm11 cd11 ct11 : Value} {od11 an11 : Option Addr} {sl11 : Array (Option Value)}
    {oc12 kV12 dc12 pm12 cd12 ct12 : Value} {od12 an12 : Option Addr} {sl12 : Array (Option Value)}
    {oc13 kV13 dc13 pm13 cd13 ct13 : Value} {od13 an13 : Option Addr} {sl13 : Array (Option Value)}
    {ca0 : Addr} {cod0 : Option Addr} {cn0 : Nat} {csl0 : Array (Option Value)} {cits0 : Array Value}
    (n0 : PySem.W.nsIn K mainGlobals "_law_draw" = some (some (.ref a0))) (l0 : K.lookup a0 = some ⟨oc0, od0, .func (PySem.W.fnOf "_law_draw" "_law_draw" (defArgs s_x_law_draw) (defBody s_x_law_draw) (defScope s_x_law_draw) .none kV0 dc0 pm0 an0 cd0 ct0), sl0⟩) (c0 : PySem.W.codeIn K cd0 "_law_draw" = true) (k0 : PySem.W.keepIn K (.ref a0) = true)
    (n1 : PySem.W.nsIn K mainGlobals "_law_unlike" = some (some (.ref a1))) (l1 : K.lookup a1 = some ⟨oc1, od1, .func (PySem.W.fnOf "_law_unlike" "_law_unlike" (defArgs s_x_law_unlike) (defBody s_x_law_unlike) (defScope s_x_law_unlike) .none kV1 dc1 pm1 an1 cd1 ct1), sl1⟩) (c1 : PySem.W.codeIn K cd1 "_law_unlike" = true) (k1 : PySem.W.keepIn K (.ref a1) = true)
    (n2 : PySem.W.nsIn K mainGlobals "_law_words" = some (some (.ref a2))) (l2 : K.lookup a2 = some ⟨oc2, od2, .func (PySem.W.fnOf "_law_words" "_law_words" (defArgs s_x_law_words) (defBody s_x_law_words) (defScope s_x_law_words) .none kV2 dc2 pm2 an2 cd2 ct2), sl2⟩) (c2 : PySem.W.codeIn K cd2 "_law_words" = true) (k2 : PySem.W.keepIn K (.ref a2) = true)
    (n3 : PySem.W.nsIn K mainGlobals "_law_items" = some (some (.ref a3))) (l3 : K.lookup a3 = some ⟨oc3, od3, .func (PySem.W.fnOf "_law_items" "_law_items" (defArgs s_x_law_items) (defBody s_x_law_items) (defScope s_x_law_items) .none kV3 dc3 pm3 an3 cd3 ct3), sl3⟩) (c3 : PySem.W.codeIn K cd3 "_law_items" = true) (k3 : PySem.W.keepIn K (.ref a3) = true)
    (n4 : PySem.W.nsIn K mainGlobals "_law_falling" = some (some (.ref a4))) (l4 : K.lookup a4 = some ⟨oc4, od4, .func (PySem.W.fnOf "_law_falling" "_law_falling" (defArgs s_x_law_falling) (defBody s_x_law_falling) (defScope s_x_law_falling) .none kV4 dc4 pm4 an4 cd4 ct4), sl4⟩) (c4 : PySem.W.codeIn K cd4 "_law_falling" = true) (k4 : PySem.W.keepIn K (.ref a4) = true)
    (n5 : PySem.W.nsIn K mainGlobals "_law_percent" = some (some (.ref a5))) (l5 : K.lookup a5 = some ⟨oc5, od5, .func (PySem.W.fnOf "_law_percent" "_law_percent" (defArgs s_x_law_percent) (defBody s_x_law_percent) (defScope s_x_law_percent) .none kV5 dc5 pm5 an5 cd5 ct5), sl5⟩) (c5 : PySem.W.codeIn K cd5 "_law_percent" = true) (k5 : PySem.W.keepIn K (.ref a5) = true)
    (n6 : PySem.W.nsIn K mainGlobals "by_value" = some (some (.ref a6))) (l6 : K.lookup a6 = some ⟨oc6, od6, .func (PySem.W.fnOf "by_value" "by_value" (defArgs s_by_value) (defBody s_by_value) (defScope s_by_value) .none kV6 dc6 pm6 an6 cd6 ct6), sl6⟩) (c6 : PySem.W.codeIn K cd6 "by_value" = true) (k6 : PySem.W.keepIn K (.ref a6) = true)
    (n7 : PySem.W.nsIn K mainGlobals "beginning" = some (some (.ref a7))) (l7 : K.lookup a7 = some ⟨oc7, od7, .func (PySem.W.fnOf "beginning" "beginning" (defArgs s_beginning) (defBody s_beginning) (defScope s_beginning) .none kV7 dc7 pm7 an7 cd7 ct7), sl7⟩) (c7 : PySem.W.codeIn K cd7 "beginning" = true) (k7 : PySem.W.keepIn K (.ref a7) = true)
    (n8 : PySem.W.nsIn K mainGlobals "classes" = some (some (.ref a8))) (l8 : K.lookup a8 = some ⟨oc8, od8, .func (PySem.W.fnOf "classes" "classes" (defArgs s_classes) (defBody s_classes) (defScope s_classes) .none kV8 dc8 pm8 an8 cd8 ct8), sl8⟩) (c8 : PySem.W.codeIn K cd8 "classes" = true) (k8 : PySem.W.keepIn K (.ref a8) = true)
    (n9 : PySem.W.nsIn K mainGlobals "_law_same" = some (some (.ref a9))) (l9 : K.lookup a9 = some ⟨oc9, od9, .func (PySem.W.fnOf "_law_same" "_law_same" (defArgs s_x_law_same) (defBody s_x_law_same) (defScope s_x_law_same) .none kV9 dc9 pm9 an9 cd9 ct9), sl9⟩) (c9 : PySem.W.codeIn K cd9 "_law_same" = true) (k9 : PySem.W.keepIn K (.ref a9) = true)
    (n10 : PySem.W.nsIn K mainGlobals "_law_shortest" = some (some (.ref a10))) (l10 : K.lookup a10 = some ⟨oc10, od10, .func (PySem.W.fnOf "_law_shortest" "_law_shortest" (defArgs s_x_law_shortest) (defBody s_x_law_shortest) (defScope s_x_law_shortest) .none kV10 dc10 pm10 an10 cd10 ct10), sl10⟩) (c10 : PySem.W.codeIn K cd10 "_law_shortest" = true) (k10 : PySem.W.keepIn K (.ref a10) = true)
    (n11 : PySem.W.nsIn K mainGlobals "_law_classes" = some (some (.ref a11))) (l11 : K.lookup a11 = some ⟨oc11, od11, .func (PySem.W.fnOf "_law_classes" "_law_classes" (defArgs s_x_law_classes) (defBody s_x_law_classes) (defScope s_x_law_classes) .none kV11 dc11 pm11 an11 cd11 ct11), sl11⟩) (c11 : PySem.W.codeIn K cd11 "_law_classes" = true) (k11 : PySem.W.keepIn K (.ref a11) = true)
    (n12 : PySem.W.nsIn K mainGlobals "_law_right" = some (some (.ref a12))) (l12 : K.lookup a12 = some ⟨oc12, od12, .func (PySem.W.fnOf "_law_right" "_law_right" (defArgs s_x_law_right) (defBody s_x_law_right) (defScope s_x_law_right) .none kV12 dc12 pm12 an12 cd12 ct12), sl12⟩) (c12 : PySem.W.codeIn K cd12 "_law_right" = true) (k12 : PySem.W.keepIn K (.ref a12) = true)
    (n13 : PySem.W.nsIn K mainGlobals "law" = some (some (.ref a13))) (l13 : K.lookup a13 = some ⟨oc13, od13, .func (PySem.W.fnOf "law" "law" (defArgs s_law) (defBody s_law) (defScope s_law) .none kV13 dc13 pm13 an13 cd13 ct13), sl13⟩) (c13 : PySem.W.codeIn K cd13 "law" = true) (k13 : PySem.W.keepIn K (.ref a13) = true)
    (z0 : PySem.W.nsIn K mainGlobals "bool" = some none)
    (z1 : PySem.W.nsIn K mainGlobals "enumerate" = some none)
    (z2 : PySem.W.nsIn K mainGlobals "int" = some none)
    (z3 : PySem.W.nsIn K mainGlobals "isinstance" = some none)
    (z4 : PySem.W.nsIn K mainGlobals "len" = some none)
    (z5 : PySem.W.nsIn K mainGlobals "list" = some none)
    (z6 : PySem.W.nsIn K mainGlobals "max" = some none)
    (z7 : PySem.W.nsIn K mainGlobals "min" = some none)
    (z8 : PySem.W.nsIn K mainGlobals "range" = some none)
    (z9 : PySem.W.nsIn K mainGlobals "sorted" = some none)
    (z10 : PySem.W.nsIn K mainGlobals "str" = some none)
    (z11 : PySem.W.nsIn K mainGlobals "sum" = some none)
    (z12 : PySem.W.nsIn K mainGlobals "tuple" = some none)
    (x0 : PySem.W.nsIn K mainGlobals "CLASSES" = some (some (.ref ca0))) (xl0 : K.lookup ca0 = some ⟨.type "tuple", cod0, .seq cits0 cn0, csl0⟩) (xz0 : cits0.size ≤ sizeLine) (xv0 : Vals [V.str "a", V.str "b", V.str "c"] cits0.toList) :
    ∃ fd : FuncData, (∀ (s : Shared) (v : Value), BindsTo s fd ⟨[v], []⟩ [("script", v)]) ∧ ∀ base : Heap, K.In base → base.Ns mainGlobals mg → FnOk l.prog w K mg base CX0 10 fa fd ["script"] (spLaw K) := by
  have e := hfa.symm.trans (PySem.W.mg_of X G n13)
  cases e
  have F0 := fun_mk (st := s_x_law_draw) l0 c0 k0
  have b0 := F0.binds (ps := ["feed", "many"]) fun _ _ _ _ _ _ us hl => match us, hl with | [_, _], _ => rfl
  have F1 := fun_mk (st := s_x_law_unlike) l1 c1 k1
  have b1 := F1.binds (ps := ["words"]) fun _ _ _ _ _ _ us hl => match us, hl with | [_], _ => rfl
  have F2 := fun_mk (st := s_x_law_words) l2 c2 k2
  have b2 := F2.binds (ps := ["feed", "many"]) fun _ _ _ _ _ _ us hl => match us, hl with | [_, _], _ => rfl
  have F3 := fun_mk (st := s_x_law_items) l3 c3 k3
  have b3 := F3.binds (ps := ["feed", "most"]) fun _ _ _ _ _ _ us hl => match us, hl with | [_, _], _ => rfl
  have F4 := fun_mk (st := s_x_law_falling) l4 c4 k4
  have b4 := F4.binds (ps := ["items"]) fun _ _ _ _ _ _ us hl => match us, hl with | [_], _ => rfl
  have F5 := fun_mk (st := s_x_law_percent) l5 c5 k5
  have b5 := F5.binds (ps := ["feed", "items"]) fun _ _ _ _ _ _ us hl => match us, hl with | [_, _], _ => rfl
  have F6 := fun_mk (st := s_by_value) l6 c6 k6
  have b6 := F6.binds (ps := ["items"]) fun _ _ _ _ _ _ us hl => match us, hl with | [_], _ => rfl
  have F7 := fun_mk (st := s_beginning) l7 c7 k7
  have b7 := F7.binds (ps := ["pairs", "percent"]) fun _ _ _ _ _ _ us hl => match us, hl with | [_, _], _ => rfl
  have F8 := fun_mk (st := s_classes) l8 c8 k8
  have b8 := F8.binds (ps := ["items", "first", "second"]) fun _ _ _ _ _ _ us hl => match us, hl with | [_, _, _], _ => rfl
  have F9 := fun_mk (st := s_x_law_same) l9 c9 k9
  have b9 := F9.binds (ps := ["due", "told"]) fun _ _ _ _ _ _ us hl => match us, hl with | [_, _], _ => rfl
  have F10 := fun_mk (st := s_x_law_shortest) l10 c10 k10
  have b10 := F10.binds (ps := ["falling", "percent"]) fun _ _ _ _ _ _ us hl => match us, hl with | [_, _], _ => rfl
  have F11 := fun_mk (st := s_x_law_classes) l11 c11 k11
  have b11 := F11.binds (ps := ["items", "first", "second"]) fun _ _ _ _ _ _ us hl => match us, hl with | [_, _, _], _ => rfl
  have F12 := fun_mk (st := s_x_law_right) l12 c12 k12
  have b12 := F12.binds (ps := ["handed", "items", "first", "second"]) fun _ _ _ _ _ _ us hl => match us, hl with | [_, _, _, _], _ => rfl
  have F13 := fun_mk (st := s_law) l13 c13 k13
  have b13 := F13.binds (ps := ["script"]) fun _ _ _ _ _ _ us hl => match us, hl with | [_], _ => rfl
  refine ⟨_, ?_, fun base _ _ => law_ok truth (okm_law (A := ⟨a0, _, a1, _, a2, _, a3, _, a4, _, a5, _, a6, _, a7, _, a8, _, a9, _, a10, _, a11, _, a12, _, fa, _⟩) ⟨F0, PySem.W.mg_of X G n0, b0, F1, PySem.W.mg_of X G n1, b1, F2, PySem.W.mg_of X G n2, b2, F3, PySem.W.mg_of X G n3, b3, F4, PySem.W.mg_of X G n4, b4, F5, PySem.W.mg_of X G n5, b5, F6, PySem.W.mg_of X G n6, b6, F7, PySem.W.mg_of X G n7, b7, F8, PySem.W.mg_of X G n8, b8, F9, PySem.W.mg_of X G n9, b9, F10, PySem.W.mg_of X G n10, b10, F11, PySem.W.mg_of X G n11, b11, F12, PySem.W.mg_of X G n12, b12, F13, PySem.W.mg_of X G n13, b13, PySem.W.mg_none_of X G z0, PySem.W.mg_none_of X G z1, PySem.W.mg_none_of X G z2, PySem.W.mg_none_of X G z3, PySem.W.mg_none_of X G z4, PySem.W.mg_none_of X G z5, PySem.W.mg_none_of X G z6, PySem.W.mg_none_of X G z7, PySem.W.mg_none_of X G z8, PySem.W.mg_none_of X G z9, PySem.W.mg_none_of X G z10, PySem.W.mg_none_of X G z11, PySem.W.mg_none_of X G z12, con_tup (PySem.W.mg_of X G x0) xl0 xz0 xv0 (fun G => by simp [Dens, Den])⟩)⟩
  exact fun s v => .of_eq rfl
end K86
open PySem PySem.W PyProof.Rows
set_option maxRecDepth 100000 in
set_option maxHeartbeats 0 in
theorem PySem.Challenge.cw_oncecounted_k86_count_classes_holds : PySem.Challenge.rw_oncecounted_k86_count_classes.Holds := by
  w_on; o_law; k_head; (case hw => w_witness2)
  k_fill
  refine L2.walk_of (l := PySem.Challenge.rw_oncecounted_k86_count_classes) (n := 63) (k := 10) (x := "script") (CX := fun _ => L2.CX0) (sp := fun w => DL.spLaw _) rfl (by decide) rfl ⟨rfl, by decide, by decide⟩ (fun w h Y => PySem.W.kIn_of Y) ?F (fun _ _ a ns hl _ hS => ⟨a, ns, rfl, hS, hl, fun _ => rfl⟩) (fun _ _ _ _ _ h => h)
  case F =>
    intro w mg fa h KX G hmg
    refine' K86.all_mk K86.truth KX G hmg ?n0 ?l0 ?c0 ?k0 ?n1 ?l1 ?c1 ?k1 ?n2 ?l2 ?c2 ?k2 ?n3 ?l3 ?c3 ?k3 ?n4 ?l4 ?c4 ?k4 ?n5 ?l5 ?c5 ?k5 ?n6 ?l6 ?c6 ?k6 ?n7 ?l7 ?c7 ?k7 ?n8 ?l8 ?c8 ?k8 ?n9 ?l9 ?c9 ?k9 ?n10 ?l10 ?c10 ?k10 ?n11 ?l11 ?c11 ?k11 ?n12 ?l12 ?c12 ?k12 ?n13 ?l13 ?c13 ?k13 ?z0 ?z1 ?z2 ?z3 ?z4 ?z5 ?z6 ?z7 ?z8 ?z9 ?z10 ?z11 ?z12 ?x0 ?xl0 ?xz0 ?xv0
    (case n0 => k_is)
    (case l0 => k_is)
    (case c0 => k_is)
    (case k0 => k_is)
    (case n1 => k_is)
    (case l1 => k_is)
    (case c1 => k_is)
    (case k1 => k_is)
    (case n2 => k_is)
    (case l2 => k_is)
    (case c2 => k_is)
    (case k2 => k_is)
    (case n3 => k_is)
    (case l3 => k_is)
    (case c3 => k_is)
    (case k3 => k_is)
    (case n4 => k_is)
    (case l4 => k_is)
    (case c4 => k_is)
    (case k4 => k_is)
    (case n5 => k_is)
    (case l5 => k_is)
    (case c5 => k_is)
    (case k5 => k_is)
    (case n6 => k_is)
    (case l6 => k_is)
    (case c6 => k_is)
    (case k6 => k_is)
    (case n7 => k_is)
    (case l7 => k_is)
    (case c7 => k_is)
    (case k7 => k_is)
    (case n8 => k_is)
    (case l8 => k_is)
    (case c8 => k_is)
    (case k8 => k_is)
    (case n9 => k_is)
    (case l9 => k_is)
    (case c9 => k_is)
    (case k9 => k_is)
    (case n10 => k_is)
    (case l10 => k_is)
    (case c10 => k_is)
    (case k10 => k_is)
    (case n11 => k_is)
    (case l11 => k_is)
    (case c11 => k_is)
    (case k11 => k_is)
    (case n12 => k_is)
    (case l12 => k_is)
    (case c12 => k_is)
    (case k12 => k_is)
    (case n13 => k_is)
    (case l13 => k_is)
    (case c13 => k_is)
    (case k13 => k_is)
    (case z0 => k_is)
    (case z1 => k_is)
    (case z2 => k_is)
    (case z3 => k_is)
    (case z4 => k_is)
    (case z5 => k_is)
    (case z6 => k_is)
    (case z7 => k_is)
    (case z8 => k_is)
    (case z9 => k_is)
    (case z10 => k_is)
    (case z11 => k_is)
    (case z12 => k_is)
    (case x0 => k_is)
    (case xl0 => k_is)
    (case xz0 => decide)
    (case xv0 => exact .cons ⟨_, rfl⟩ (.cons ⟨_, rfl⟩ (.cons ⟨_, rfl⟩ (.nil))))
end
