import PyProof.Rows.All
import Wide.All
import OpenK.AllK
import Wide.FinOn
import HandS.ForMost
import HandS.IsInst
import HandS.Wide
import HandS.WideBits
import HandS.Deep
import HandS.Conv
import HandS.SortInts
import PySem.Challenge.RW_notring_k11_conds_by_two_sets
set_option Elab.async false
set_option linter.all false
set_option maxHeartbeats 4000000
set_option maxRecDepth 100000
namespace VL
open PySem PySem.Spec PyProof.Rows L2

/-! ### data: what a value stands for; lst, tup, dic, ins are shared and stay as they are; olst, odic, oins belong to one holder and may change -/
inductive D where
  | non | bl (b : Bool) | int (i : Int) | str (x : Str)
  | lst (xs : List D) | tup (xs : List D) | dic (ks : List Key) (xs : List D)
  | ins (c : Str) (ns : List Str) (xs : List D) | scr (ns : List Int)
  | olst (xs : List D) | odic (ks : List Key) (xs : List D) | oins (c : Str) (ns : List Str) (xs : List D)

mutual
def frz : D → D
  | .olst xs => .lst (frzs xs)
  | .odic ks xs => .dic ks (frzs xs)
  | .oins c ns xs => .ins c ns (frzs xs)
  | .non => .non
  | .bl b => .bl b
  | .int i => .int i
  | .str x => .str x
  | .lst xs => .lst xs
  | .tup xs => .tup xs
  | .dic ks xs => .dic ks xs
  | .ins c ns xs => .ins c ns xs
  | .scr ns => .scr ns
def frzs : List D → List D
  | [] => []
  | d :: r => frz d :: frzs r
end
theorem frzs_map : ∀ ds : List D, frzs ds = ds.map frz
  | [] => rfl
  | d :: r => by rw [frzs, frzs_map r]; rfl
def scalar : D → Bool
  | .non => true
  | .bl _ => true
  | .int _ => true
  | .str _ => true
  | _ => false

/-- what the top has written -/
structure Ct where
  K : PySem.W.Frag
  mg : Str → Option Value

mutual
def RepF (C : Ct) (G : Hp) : D → V → Prop
  | .non, v => v = .non
  | .bl b, v => v = .bl b
  | .int i, v => v = .int i
  | .str x, v => v = .str x
  | .lst ds, v => ∃ a xs, v = .ref a ∧ G a = some (.lst xs) ∧ RepFs C G ds xs
  | .scr ns, v => ∃ a, v = .ref a ∧ SqL C.K G a (ns.map V.int)
  | .tup ds, v => ∃ a xs, v = .ref a ∧ SqT C.K G a xs ∧ RepFs C G ds xs
  | .dic ks ds, v => ∃ a xs, v = .ref a ∧ G a = some (.dK (ks.zip xs)) ∧ xs.length = ks.length ∧ RepFs C G ds xs
  | .ins c ns ds, v => ∃ a A dx xs, v = .ref a ∧ C.mg c = some (.ref A) ∧ G a = some (.ins A dx (ns.zip xs)) ∧ xs.length = ns.length ∧ RepFs C G ds xs
  | .olst _, _ => False
  | .odic _ _, _ => False
  | .oins _ _ _, _ => False
def RepFs (C : Ct) (G : Hp) : List D → List V → Prop
  | [], xs => xs = []
  | d :: ds, xs => ∃ x r, xs = x :: r ∧ RepF C G d x ∧ RepFs C G ds r
end
mutual
def RepO (C : Ct) (G H : Hp) : D → V → List Addr → Prop
  | .olst ds, v, fp => ∃ a xs f, v = .ref a ∧ H a = some (.lst xs) ∧ RepOs C G H ds xs f ∧ fp = a :: f
  | .odic ks ds, v, fp => ∃ a xs f, v = .ref a ∧ H a = some (.dK (ks.zip xs)) ∧ xs.length = ks.length ∧ RepOs C G H ds xs f ∧ fp = a :: f
  | .oins c ns ds, v, fp => ∃ a A dx xs f, v = .ref a ∧ C.mg c = some (.ref A) ∧ H a = some (.ins A dx (ns.zip xs)) ∧ H dx = some (.own a) ∧ xs.length = ns.length ∧ RepOs C G H ds xs f ∧ fp = a :: dx :: f
  | .non, v, fp => v = .non ∧ fp = []
  | .bl b, v, fp => v = .bl b ∧ fp = []
  | .int i, v, fp => v = .int i ∧ fp = []
  | .str x, v, fp => v = .str x ∧ fp = []
  | .lst ds, v, fp => RepF C G (.lst ds) v ∧ fp = []
  | .tup ds, v, fp => RepF C G (.tup ds) v ∧ fp = []
  | .dic ks ds, v, fp => RepF C G (.dic ks ds) v ∧ fp = []
  | .ins c ns ds, v, fp => RepF C G (.ins c ns ds) v ∧ fp = []
  | .scr ns, v, fp => RepF C G (.scr ns) v ∧ fp = []
def RepOs (C : Ct) (G H : Hp) : List D → List V → List Addr → Prop
  | [], xs, f => xs = [] ∧ f = []
  | d :: ds, xs, f => ∃ x r f1 f2, xs = x :: r ∧ f = f1 ++ f2 ∧ RepO C G H d x f1 ∧ RepOs C G H ds r f2
end

section
variable {C : Ct} {G G' H H' : Hp}
theorem rdSame {a : Addr} {u : HO} (e : Same G G') (h : Rd G a u) : Rd G' a u := by
  rcases h with h | ⟨o, h⟩
  · exact .inl (e _ _ h)
  · exact .inr ⟨o, e _ _ h⟩
theorem seqT {K : PySem.W.Frag} {a : Addr} {xs : List V} (e : Same G G') (h : SqT K G a xs) : SqT K G' a xs := by
  rcases h with h | h
  · exact .inl (rdSame e h)
  · exact .inr h
mutual
theorem RepF.mono (e : Same G G') : ∀ (d : D) (v : V), RepF C G d v → RepF C G' d v
  | .non, v, h => h
  | .bl _, v, h => h
  | .int _, v, h => h
  | .str _, v, h => h
  | .lst ds, v, h => by
    obtain ⟨a, xs, h1, h2, h3⟩ := h
    exact ⟨a, xs, h1, e _ _ h2, RepFs.mono e ds xs h3⟩
  | .scr ns, v, h => by
    obtain ⟨a, h1, h2⟩ := h
    exact ⟨a, h1, e.seq h2⟩
  | .tup ds, v, h => by
    obtain ⟨a, xs, h1, h2, h3⟩ := h
    exact ⟨a, xs, h1, seqT e h2, RepFs.mono e ds xs h3⟩
  | .dic ks ds, v, h => by
    obtain ⟨a, xs, h1, h2, h3, h4⟩ := h
    exact ⟨a, xs, h1, e _ _ h2, h3, RepFs.mono e ds xs h4⟩
  | .ins c ns ds, v, h => by
    obtain ⟨a, A, dx, xs, h1, h2, h3, h4, h5⟩ := h
    exact ⟨a, A, dx, xs, h1, h2, e _ _ h3, h4, RepFs.mono e ds xs h5⟩
  | .olst _, _, h => h
  | .odic _ _, _, h => h
  | .oins _ _ _, _, h => h
theorem RepFs.mono (e : Same G G') : ∀ (ds : List D) (xs : List V), RepFs C G ds xs → RepFs C G' ds xs
  | [], xs, h => h
  | d :: ds, xs, h => by
    obtain ⟨x, r, h1, h2, h3⟩ := h
    exact ⟨x, r, h1, RepF.mono e d x h2, RepFs.mono e ds r h3⟩
end
theorem RepFs.length : ∀ {ds : List D} {xs : List V}, RepFs C G ds xs → xs.length = ds.length
  | [], xs, h => by rw [show xs = [] from h]; rfl
  | d :: ds, xs, h => by
    obtain ⟨x, r, h1, h2, h3⟩ := h
    rw [h1, List.length_cons, List.length_cons, RepFs.length h3]
/-- what is shared is held with no cell of one's own -/
theorem RepF.o : ∀ {d : D} {v : V}, RepF C G d v → RepO C G H d v []
  | .non, v, h => ⟨h, rfl⟩
  | .bl _, v, h => ⟨h, rfl⟩
  | .int _, v, h => ⟨h, rfl⟩
  | .str _, v, h => ⟨h, rfl⟩
  | .lst ds, v, h => ⟨h, rfl⟩
  | .tup ds, v, h => ⟨h, rfl⟩
  | .dic ks ds, v, h => ⟨h, rfl⟩
  | .ins c ns ds, v, h => ⟨h, rfl⟩
  | .scr ns, v, h => ⟨h, rfl⟩
  | .olst _, _, h => h.elim
  | .odic _ _, _, h => h.elim
  | .oins _ _ _, _, h => h.elim
theorem RepFs.o : ∀ {ds : List D} {vs : List V}, RepFs C G ds vs → RepOs C G H ds vs []
  | [], _, h => ⟨h, rfl⟩
  | d :: ds, _, h => by
    obtain ⟨x, r, h1, h2, h3⟩ := h
    exact ⟨x, r, [], [], h1, rfl, h2.o, RepFs.o h3⟩
mutual
theorem RepO.mono (e : Same G G') : ∀ (d : D) (v : V) (fp : List Addr), (∀ a ∈ fp, H' a = H a) → RepO C G H d v fp → RepO C G' H' d v fp
  | .non, v, fp, k, h => h
  | .bl _, v, fp, k, h => h
  | .int _, v, fp, k, h => h
  | .str _, v, fp, k, h => h
  | .lst ds, v, fp, k, h => ⟨RepF.mono e _ _ h.1, h.2⟩
  | .tup ds, v, fp, k, h => ⟨RepF.mono e _ _ h.1, h.2⟩
  | .dic ks ds, v, fp, k, h => ⟨RepF.mono e _ _ h.1, h.2⟩
  | .ins c ns ds, v, fp, k, h => ⟨RepF.mono e _ _ h.1, h.2⟩
  | .scr ns, v, fp, k, h => ⟨RepF.mono e _ _ h.1, h.2⟩
  | .olst ds, v, fp, k, h => by
    obtain ⟨a, xs, f, h1, h2, h3, h4⟩ := h
    subst h4
    exact ⟨a, xs, f, h1, (k a List.mem_cons_self).trans h2, RepOs.mono e ds xs f (fun b hb => k b (List.mem_cons_of_mem _ hb)) h3, rfl⟩
  | .odic ks ds, v, fp, k, h => by
    obtain ⟨a, xs, f, h1, h2, h3, h4, h5⟩ := h
    subst h5
    exact ⟨a, xs, f, h1, (k a List.mem_cons_self).trans h2, h3, RepOs.mono e ds xs f (fun b hb => k b (List.mem_cons_of_mem _ hb)) h4, rfl⟩
  | .oins c ns ds, v, fp, k, h => by
    obtain ⟨a, A, dx, xs, f, h1, h2, h3, h4, h5, h6, h7⟩ := h
    subst h7
    exact ⟨a, A, dx, xs, f, h1, h2, (k a List.mem_cons_self).trans h3, (k dx (List.mem_cons_of_mem _ List.mem_cons_self)).trans h4, h5,
      RepOs.mono e ds xs f (fun b hb => k b (List.mem_cons_of_mem _ (List.mem_cons_of_mem _ hb))) h6, rfl⟩
theorem RepOs.mono (e : Same G G') : ∀ (ds : List D) (vs : List V) (fp : List Addr), (∀ a ∈ fp, H' a = H a) → RepOs C G H ds vs fp → RepOs C G' H' ds vs fp
  | [], _, _, _, h => h
  | d :: ds, vs, fp, k, h => by
    obtain ⟨x, r, f1, f2, h1, h2, h3, h4⟩ := h
    subst h2
    exact ⟨x, r, f1, f2, h1, rfl, RepO.mono e d x f1 (fun b hb => k b (List.mem_append_left _ hb)) h3, RepOs.mono e ds r f2 (fun b hb => k b (List.mem_append_right _ hb)) h4⟩
end
mutual
/-- the cells of one's own are there -/
theorem RepO.there : ∀ (d : D) (v : V) (fp : List Addr), RepO C G H d v fp → ∀ a ∈ fp, H a ≠ none
  | .non, v, fp, h => by rw [h.2]; intro a z; cases z
  | .bl _, v, fp, h => by rw [h.2]; intro a z; cases z
  | .int _, v, fp, h => by rw [h.2]; intro a z; cases z
  | .str _, v, fp, h => by rw [h.2]; intro a z; cases z
  | .lst ds, v, fp, h => by rw [h.2]; intro a z; cases z
  | .tup ds, v, fp, h => by rw [h.2]; intro a z; cases z
  | .dic ks ds, v, fp, h => by rw [h.2]; intro a z; cases z
  | .ins c ns ds, v, fp, h => by rw [h.2]; intro a z; cases z
  | .scr ns, v, fp, h => by rw [h.2]; intro a z; cases z
  | .olst ds, v, fp, h => by
    obtain ⟨a, xs, f, h1, h2, h3, h4⟩ := h
    subst h4
    intro b hb
    rcases List.mem_cons.mp hb with e | hb
    · rw [e, h2]; exact fun z => nomatch z
    · exact RepOs.there ds xs f h3 b hb
  | .odic ks ds, v, fp, h => by
    obtain ⟨a, xs, f, h1, h2, h3, h4, h5⟩ := h
    subst h5
    intro b hb
    rcases List.mem_cons.mp hb with e | hb
    · rw [e, h2]; exact fun z => nomatch z
    · exact RepOs.there ds xs f h4 b hb
  | .oins c ns ds, v, fp, h => by
    obtain ⟨a, A, dx, xs, f, h1, h2, h3, h4, h5, h6, h7⟩ := h
    subst h7
    intro b hb
    rcases List.mem_cons.mp hb with e | hb
    · rw [e, h3]; exact fun z => nomatch z
    · rcases List.mem_cons.mp hb with e | hb
      · rw [e, h4]; exact fun z => nomatch z
      · exact RepOs.there ds xs f h6 b hb
theorem RepOs.there : ∀ (ds : List D) (vs : List V) (fp : List Addr), RepOs C G H ds vs fp → ∀ a ∈ fp, H a ≠ none
  | [], _, fp, h => by rw [h.2]; intro a z; cases z
  | d :: ds, vs, fp, h => by
    obtain ⟨x, r, f1, f2, h1, h2, h3, h4⟩ := h
    subst h2
    intro b hb
    rcases List.mem_append.mp hb with hb | hb
    · exact RepO.there d x f1 h3 b hb
    · exact RepOs.there ds r f2 h4 b hb
end
/-- the shared part, and the cells fp as they stand -/
def addF (G H : Hp) (fp : List Addr) : Hp := fun a => if a ∈ fp then H a else G a
theorem addF_in {a : Addr} {fp : List Addr} (h : a ∈ fp) : addF G H fp a = H a := by unfold addF; rw [if_pos h]
theorem addF_out {a : Addr} {fp : List Addr} (h : a ∉ fp) : addF G H fp a = G a := by unfold addF; rw [if_neg h]
theorem addF_same {fp : List Addr} (e : Same G H) : Same G (addF G H fp) := fun a o h => by
  by_cases z : a ∈ fp
  · rw [addF_in z]; exact e _ _ h
  · rw [addF_out z]; exact h
theorem addF_le {fp : List Addr} (e : Same G H) : Same (addF G H fp) H := fun a o h => by
  by_cases z : a ∈ fp
  · rw [addF_in z] at h; exact h
  · rw [addF_out z] at h; exact e _ _ h
mutual
theorem RepO.frz : ∀ (d : D) (v : V) (fp : List Addr), RepO C G H d v fp → ∀ G', Same G G' → (∀ a ∈ fp, G' a = H a) → RepF C G' (frz d) v
  | .non, v, fp, h, G', e, k => h.1
  | .bl _, v, fp, h, G', e, k => h.1
  | .int _, v, fp, h, G', e, k => h.1
  | .str _, v, fp, h, G', e, k => h.1
  | .lst ds, v, fp, h, G', e, k => RepF.mono e _ _ h.1
  | .tup ds, v, fp, h, G', e, k => RepF.mono e _ _ h.1
  | .dic ks ds, v, fp, h, G', e, k => RepF.mono e _ _ h.1
  | .ins c ns ds, v, fp, h, G', e, k => RepF.mono e _ _ h.1
  | .scr ns, v, fp, h, G', e, k => RepF.mono e _ _ h.1
  | .olst ds, v, fp, h, G', e, k => by
    obtain ⟨a, xs, f, h1, h2, h3, h4⟩ := h
    subst h4
    exact ⟨a, xs, h1, (k a List.mem_cons_self).trans h2, RepOs.frz ds xs f h3 G' e fun b hb => k b (List.mem_cons_of_mem _ hb)⟩
  | .odic ks ds, v, fp, h, G', e, k => by
    obtain ⟨a, xs, f, h1, h2, h3, h4, h5⟩ := h
    subst h5
    exact ⟨a, xs, h1, (k a List.mem_cons_self).trans h2, h3, RepOs.frz ds xs f h4 G' e fun b hb => k b (List.mem_cons_of_mem _ hb)⟩
  | .oins c ns ds, v, fp, h, G', e, k => by
    obtain ⟨a, A, dx, xs, f, h1, h2, h3, h4, h5, h6, h7⟩ := h
    subst h7
    exact ⟨a, A, dx, xs, h1, h2, (k a List.mem_cons_self).trans h3, h5, RepOs.frz ds xs f h6 G' e fun b hb => k b (List.mem_cons_of_mem _ (List.mem_cons_of_mem _ hb))⟩
theorem RepOs.frz : ∀ (ds : List D) (vs : List V) (fp : List Addr), RepOs C G H ds vs fp → ∀ G', Same G G' → (∀ a ∈ fp, G' a = H a) → RepFs C G' (frzs ds) vs
  | [], _, _, h, G', e, k => h.1
  | d :: ds, vs, fp, h, G', e, k => by
    obtain ⟨x, r, f1, f2, h1, h2, h3, h4⟩ := h
    subst h2
    exact ⟨x, r, h1, RepO.frz d x f1 h3 G' e fun b hb => k b (List.mem_append_left _ hb), RepOs.frz ds r f2 h4 G' e fun b hb => k b (List.mem_append_right _ hb)⟩
end
theorem RepOs.length : ∀ {ds : List D} {xs : List V} {f : List Addr}, RepOs C G H ds xs f → xs.length = ds.length
  | [], xs, f, h => by rw [h.1]; rfl
  | d :: ds, xs, f, h => by
    obtain ⟨x, r, f1, f2, h1, _, _, h3⟩ := h
    rw [h1, List.length_cons, List.length_cons, RepOs.length h3]
theorem RepO.scal {d : D} {v : V} {fp : List Addr} (h : RepO C G H d v fp) (hs : scalar d = true) (G' : Hp) : RepF C G' d v := by
  cases d with
  | non => exact h.1
  | bl b => exact h.1
  | int i => exact h.1
  | str x => exact h.1
  | _ => cases hs
end

/-! ### what is held: the names' values and those in hand; each with cells of its own -/
structure Own (C : Ct) (G H : Hp) (σ : List (Option V)) (ds : List (Option D)) (fpf : Nat → List Addr) : Prop where
  len : σ.length = ds.length
  rep : ∀ i d, ds[i]? = some (some d) → ∃ v, σ[i]? = some (some v) ∧ RepO C G H d v (fpf i)
  nd : ∀ i, (fpf i).Nodup
  dj : ∀ i j p, p ∈ fpf i → p ∈ fpf j → i = j
  gn : ∀ i p, p ∈ fpf i → G p = none
  hp : ∀ i p, p ∈ fpf i → H p ≠ none
/-- from G0, H0 (the entry) to G, H: all but the cells io is kept; what is held -/
structure Post (C : Ct) (G0 H0 : Hp) (io : List Addr) (G H : Hp) (σ : List (Option V)) (ds : List (Option D)) : Prop where
  gg : Same G0 G
  gh : Same G H
  kept : ∀ a o, H0 a = some o → a ∉ io → H a = some o
  dom : ∀ a, H0 a ≠ none → H a ≠ none
  gf : ∀ a, H0 a ≠ none → a ∉ io → G0 a = none → G a = none
  own : ∃ fpf, Own C G H σ ds fpf ∧ ∀ i p, p ∈ fpf i → p ∈ io ∨ H0 p = none
/-- new objects alone -/
structure Grow (G H G' H' : Hp) (fp : List Addr) : Prop where
  gg : Same G G'
  hh : Same H H'
  gh : Same G' H'
  gf : ∀ a, H a ≠ none → G a = none → G' a = none
  nd : fp.Nodup
  fn : ∀ p ∈ fp, H p = none ∧ G' p = none
theorem Grow.refl {G H : Hp} (e : Same G H) : Grow G H G H [] := ⟨Same.refl _, Same.refl _, e, fun _ _ h => h, .nil, fun _ h => nomatch h⟩
theorem ne_upd {H : Hp} {a b : Addr} {o : HO} (h : H a ≠ none) : upd H b o a ≠ none := by
  by_cases e : a = b
  · rw [e, upd_same]; exact fun z => nomatch z
  · rw [upd_ne e]; exact h
theorem Same.new {H : Hp} {p : Addr} {o : HO} (h : H p = none) : Same H (upd H p o) := fun a u e => by
  rw [upd_ne (ne_of_none e h)]; exact e
theorem same_none {G H : Hp} {p : Addr} (e : Same G H) (h : H p = none) : G p = none := e.free h
/-- a new shared object -/
theorem Grow.shared {G H : Hp} {p : Addr} {o : HO} (e : Same G H) (h : H p = none) : Grow G H (upd G p o) (upd H p o) [] := by
  have hg := same_none e h
  refine ⟨Same.new hg, Same.new h, fun a u z => ?_, fun a ha hn => ?_, .nil, fun _ h => nomatch h⟩
  · by_cases q : a = p
    · rw [q, upd_same] at z ⊢; exact z
    · rw [upd_ne q] at z ⊢; exact e _ _ z
  · have q : a ≠ p := fun q => ha (by rw [q]; exact h)
    rw [upd_ne q]; exact hn
/-- a new object of one's own -/
theorem Grow.own1 {G H : Hp} {p : Addr} {o : HO} (e : Same G H) (h : H p = none) : Grow G H G (upd H p o) [p] := by
  refine ⟨Same.refl _, Same.new h, e.trans (Same.new h), fun _ _ q => q, by simp, fun q hq => ?_⟩
  rw [List.mem_singleton.mp hq]
  exact ⟨h, same_none e h⟩

section
variable {C : Ct} {G0 H0 G H G' H' : Hp} {io : List Addr} {σ : List (Option V)} {ds : List (Option D)}
theorem Post.re {fpf fpf' : Nat → List Addr} {σ' : List (Option V)} {ds' : List (Option D)} (P : Post C G0 H0 io G H σ ds) (hin : ∀ i p, p ∈ fpf i → p ∈ io ∨ H0 p = none)
    (gg : Same G G') (gh : Same G' H') (kept : ∀ a o, H a = some o → (∀ i, a ∉ fpf i) → H' a = some o) (dom : ∀ a, H a ≠ none → H' a ≠ none) (gf : ∀ a, H a ≠ none → (∀ i, a ∉ fpf i) → G a = none → G' a = none)
    (own : Own C G' H' σ' ds' fpf') (cells : ∀ i p, p ∈ fpf' i → (∃ j, p ∈ fpf j) ∨ H p = none) : Post C G0 H0 io G' H' σ' ds' := by
  have nf : ∀ a, H0 a ≠ none → a ∉ io → ∀ i, a ∉ fpf i := fun a h1 h2 i z => by
    rcases hin i a z with q | q
    · exact h2 q
    · exact h1 q
  refine ⟨P.gg.trans gg, gh, fun a o h1 h2 => ?_, fun a h => dom a (P.dom a h), fun a h1 h2 h3 => ?_, fpf', own, fun i p h => ?_⟩
  · exact kept a o (P.kept a o h1 h2) (nf a (by rw [h1]; exact fun z => nomatch z) h2)
  · exact gf a (P.dom a h1) (nf a h1 h2) (P.gf a h1 h2 h3)
  · rcases cells i p h with ⟨j, q⟩ | q
    · exact hin j p q
    · refine .inr ?_
      cases e : H0 p with
      | none => rfl
      | some o => exact absurd q (P.dom p (by rw [e]; exact fun z => nomatch z))
theorem getElem?_snoc_lt {α : Type} {l : List α} {x : α} {i : Nat} (h : i < l.length) : (l ++ [x])[i]? = l[i]? := List.getElem?_append_left h
theorem getElem?_snoc_eq {α : Type} {l : List α} {x : α} : (l ++ [x])[l.length]? = some x := by simp
/-- new objects, one of them in hand -/
theorem Post.grow {fp : List Addr} {d : D} {v : V} (P : Post C G0 H0 io G H σ ds) (g : Grow G H G' H' fp) (r : RepO C G' H' d v fp) : Post C G0 H0 io G' H' (σ ++ [some v]) (ds ++ [some d]) := by
  obtain ⟨fpf, O, hin⟩ := P.own
  have hlen := O.len
  refine P.re (fpf := fpf) (fpf' := fun i => if i < ds.length then fpf i else if i = ds.length then fp else []) hin g.gg g.gh (fun a o h _ => g.hh a o h) (fun a h => ?_) (fun a h _ q => g.gf a h q) ⟨by simp [hlen], fun i d' hd => ?_, fun i => ?_, fun i j p hi hj => ?_, fun i p hi => ?_, fun i p hi => ?_⟩ fun i p hi => ?_
  · cases e : H a with
    | none => exact absurd e h
    | some o => rw [g.hh a o e]; exact fun z => nomatch z
  · by_cases hi : i < ds.length
    · rw [getElem?_snoc_lt hi] at hd
      obtain ⟨v', e1, e2⟩ := O.rep i d' hd
      refine ⟨v', by rw [getElem?_snoc_lt (by omega)]; exact e1, ?_⟩
      simp only [hi, if_true]
      refine RepO.mono g.gg _ _ _ (fun a ha => ?_) e2
      cases e : H a with
      | none => exact absurd e (O.hp i a ha)
      | some o => exact g.hh a o e
    · have e : i = ds.length := by
        have := (List.getElem?_eq_some_iff.mp hd).1
        simp at this
        omega
      subst e
      rw [getElem?_snoc_eq] at hd
      cases hd
      refine ⟨v, by rw [← hlen, getElem?_snoc_eq], ?_⟩
      simp only [Nat.lt_irrefl, if_false, if_true]
      exact r
  · (try dsimp only)
    split
    · exact O.nd i
    · split
      · exact g.nd
      · exact .nil
  · (try dsimp only at hi hj)
    by_cases h1 : i < ds.length
    · rw [if_pos h1] at hi
      by_cases h2 : j < ds.length
      · rw [if_pos h2] at hj; exact O.dj i j p hi hj
      · rw [if_neg h2] at hj
        split at hj
        · exact absurd (g.fn p hj).1 (O.hp i p hi)
        · cases hj
    · rw [if_neg h1] at hi
      split at hi
      · by_cases h2 : j < ds.length
        · rw [if_pos h2] at hj; exact absurd (g.fn p hi).1 (O.hp j p hj)
        · rw [if_neg h2] at hj
          split at hj
          · omega
          · cases hj
      · cases hi
  · (try dsimp only at hi)
    split at hi
    · exact g.gf p (O.hp i p hi) (O.gn i p hi)
    · split at hi
      · exact (g.fn p hi).2
      · cases hi
  · (try dsimp only at hi)
    split at hi
    · cases e : H p with
      | none => exact absurd e (O.hp i p hi)
      | some o => rw [g.hh p o e]; exact fun z => nomatch z
    · split at hi
      · exact RepO.there _ _ _ r p hi
      · cases hi
  · (try dsimp only at hi)
    split at hi
    · exact .inl ⟨i, hi⟩
    · split at hi
      · exact .inr (g.fn p hi).1
      · cases hi
/-- a shared value in hand -/
theorem Post.push {d : D} {v : V} (P : Post C G0 H0 io G H σ ds) (r : RepF C G d v) : Post C G0 H0 io G H (σ ++ [some v]) (ds ++ [some d]) := P.grow (Grow.refl P.gh) r.o
/-- the list of what is held, told otherwise -/
theorem Post.sub {σ' : List (Option V)} {ds' : List (Option D)} (φ : Nat → Option Nat) (P : Post C G0 H0 io G H σ ds) (hl : σ'.length = ds'.length)
    (h : ∀ i d, ds'[i]? = some (some d) → ∃ j, φ i = some j ∧ ds[j]? = some (some d) ∧ σ'[i]? = σ[j]?) (inj : ∀ i i' j, φ i = some j → φ i' = some j → i = i') : Post C G0 H0 io G H σ' ds' := by
  obtain ⟨fpf, O, hin⟩ := P.own
  refine P.re (fpf := fpf) (fpf' := fun i => match φ i with | some j => fpf j | none => []) hin (Same.refl _) P.gh (fun a o h _ => h) (fun a h => h) (fun a h _ q => q) ⟨hl, fun i d' hd => ?_, fun i => ?_, fun i i' p hi hj => ?_, fun i p hi => ?_, fun i p hi => ?_⟩ fun i p hi => ?_
  · obtain ⟨j, e1, e2, e3⟩ := h i d' hd
    obtain ⟨v, q1, q2⟩ := O.rep j d' e2
    exact ⟨v, e3.trans q1, by simp only [e1]; exact q2⟩
  · (try dsimp only); split
    · exact O.nd _
    · exact .nil
  · (try dsimp only at hi hj)
    split at hi
    · split at hj
      · rename_i j e1 _ j' e2
        have := O.dj _ _ p hi hj
        subst this
        exact inj _ _ _ e1 e2
      · cases hj
    · cases hi
  · (try dsimp only at hi); split at hi
    · exact O.gn _ p hi
    · cases hi
  · (try dsimp only at hi); split at hi
    · exact O.hp _ p hi
    · cases hi
  · (try dsimp only at hi); split at hi
    · exact .inl ⟨_, hi⟩
    · cases hi
/-- what was last taken in hand is let go -/
theorem Post.pop {x : Option V} {y : Option D} (P : Post C G0 H0 io G H (σ ++ [x]) (ds ++ [y])) : Post C G0 H0 io G H σ ds := by
  obtain ⟨fpf, O, _⟩ := id P.own
  have hlen : σ.length = ds.length := by have := O.len; simpa using this
  refine P.sub (fun i => some i) hlen (fun i d hd => ⟨i, rfl, ?_, ?_⟩) fun i i' j a b => by cases a; cases b; rfl
  · rw [getElem?_snoc_lt (List.getElem?_eq_some_iff.mp hd).1]; exact hd
  · have := (List.getElem?_eq_some_iff.mp hd).1
    rw [getElem?_snoc_lt (by omega)]
theorem Post.len (P : Post C G0 H0 io G H σ ds) : σ.length = ds.length := let ⟨_, O, _⟩ := P.own; O.len
/-- what was last taken in hand is given to the name at i -/
theorem Post.setLast {v : V} {d : D} {i : Nat} (P : Post C G0 H0 io G H (σ ++ [some v]) (ds ++ [some d])) : Post C G0 H0 io G H (σ.set i (some v)) (ds.set i (some d)) := by
  have hlen : σ.length = ds.length := by have := P.len; simpa using this
  refine P.sub (fun j => if j = i then some ds.length else if j < ds.length then some j else none) (by simp [hlen]) (fun j d' hd => ?_) fun a b j ha hb => ?_
  · have hj : j < ds.length := by have := (List.getElem?_eq_some_iff.mp hd).1; simpa using this
    by_cases e : j = i
    · subst e
      rw [List.getElem?_set_self hj] at hd
      cases hd
      refine ⟨ds.length, by simp, getElem?_snoc_eq, ?_⟩
      rw [List.getElem?_set_self (by omega), ← hlen, getElem?_snoc_eq]
    · rw [List.getElem?_set_ne (Ne.symm e)] at hd
      refine ⟨j, by simp [e, hj], by rw [getElem?_snoc_lt hj]; exact hd, ?_⟩
      rw [List.getElem?_set_ne (Ne.symm e), getElem?_snoc_lt (by omega)]
  · (try dsimp only at ha hb)
    by_cases e1 : a = i <;> by_cases e2 : b = i
    · omega
    · rw [if_pos e1] at ha
      rw [if_neg e2] at hb
      cases ha
      split at hb
      · rename_i q; cases hb; omega
      · cases hb
    · rw [if_neg e1] at ha
      rw [if_pos e2] at hb
      cases hb
      split at ha
      · rename_i q; cases ha; omega
      · cases ha
    · rw [if_neg e1] at ha
      rw [if_neg e2] at hb
      split at ha
      · split at hb
        · cases ha; cases hb; rfl
        · cases hb
      · cases ha
/-- the value at i is shared from now on -/
theorem Post.freeze {i : Nat} {d : D} (P : Post C G0 H0 io G H σ ds) (hi : ds[i]? = some (some d)) : ∃ G' v, Same G G' ∧ σ[i]? = some (some v) ∧ RepF C G' (frz d) v ∧ Post C G0 H0 io G' H σ (ds.set i (some (frz d))) := by
  obtain ⟨fpf, O, hin⟩ := id P.own
  obtain ⟨v, hv, r⟩ := O.rep i d hi
  have hlt : i < ds.length := (List.getElem?_eq_some_iff.mp hi).1
  have rf : RepF C (addF G H (fpf i)) (frz d) v := RepO.frz d v _ r _ (addF_same P.gh) fun a ha => addF_in ha
  refine ⟨addF G H (fpf i), v, addF_same P.gh, hv, rf, ?_⟩
  refine P.re (fpf := fpf) (fpf' := fun j => if j = i then [] else fpf j) hin (addF_same P.gh) (addF_le P.gh) (fun a o h _ => h) (fun a h => h) (fun a h k q => by rw [addF_out (k i)]; exact q) ⟨by simpa using O.len, fun j d' hd => ?_, fun j => ?_, fun j j' p h1 h2 => ?_, fun j p h1 => ?_, fun j p h1 => ?_⟩ fun j p h1 => ?_
  · by_cases e : j = i
    · subst e
      rw [List.getElem?_set_self hlt] at hd
      cases hd
      exact ⟨v, hv, by simp only [if_true]; exact rf.o⟩
    · rw [List.getElem?_set_ne (Ne.symm e)] at hd
      obtain ⟨v', q1, q2⟩ := O.rep j d' hd
      exact ⟨v', q1, by simp only [e, if_false]; exact RepO.mono (addF_same P.gh) _ _ _ (fun _ _ => rfl) q2⟩
  · (try dsimp only); split
    · exact .nil
    · exact O.nd j
  · (try dsimp only at h1 h2)
    split at h1
    · cases h1
    · split at h2
      · cases h2
      · exact O.dj j j' p h1 h2
  · (try dsimp only at h1)
    split at h1
    · cases h1
    · rename_i e
      rw [addF_out fun z => e (O.dj j i p h1 z)]
      exact O.gn j p h1
  · (try dsimp only at h1)
    split at h1
    · cases h1
    · exact O.hp j p h1
  · (try dsimp only at h1)
    split at h1
    · cases h1
    · exact .inl ⟨j, h1⟩
/-- the value at i is forgotten -/
theorem Post.forget (P : Post C G0 H0 io G H σ ds) (i : Nat) : Post C G0 H0 io G H σ (ds.set i none) := by
  refine P.sub some (by simpa using P.len) (fun j d hd => ⟨j, rfl, ?_, rfl⟩) fun a b j h1 h2 => by cases h1; cases h2; rfl
  by_cases e : j = i
  · subst e
    have hj : j < ds.length := by have := (List.getElem?_eq_some_iff.mp hd).1; simpa using this
    rw [List.getElem?_set_self hj] at hd
    cases hd
  · rwa [List.getElem?_set_ne (Ne.symm e)] at hd
/-- more is tracked, nothing is changed -/
theorem Post.more (P : Post C G0 H0 io G H σ ds) (e : Same H H') : Post C G0 H0 io G H' σ ds := by
  obtain ⟨fpf, O, hin⟩ := id P.own
  have at' : ∀ a, H a ≠ none → H' a = H a := fun a h => by
    cases q : H a with
    | none => exact absurd q h
    | some o => exact e a o q
  refine P.re (fpf := fpf) (fpf' := fpf) hin (Same.refl _) (P.gh.trans e) (fun a o h _ => e a o h) (fun a h => by rw [at' a h]; exact h) (fun a h _ q => q) ⟨O.len, fun i d hd => ?_, O.nd, O.dj, O.gn, fun i p h => ?_⟩ fun i p h => .inl ⟨i, h⟩
  · obtain ⟨v, q1, q2⟩ := O.rep i d hd
    exact ⟨v, q1, RepO.mono (Same.refl _) _ _ _ (fun a ha => at' a (O.hp i a ha)) q2⟩
  · rw [at' p (O.hp i p h)]; exact O.hp i p h
end
end VL
namespace VL
open PySem PySem.Spec PyProof.Rows L2

/-! ### what is reckoned: a value or an error, and the names behind it -/
abbrev Env := List (Option D)
structure Exc where
  c : Str
  ns : List Str
  ds : List D
inductive R (α : Type) where
  | no
  | ok (a : α) (e : Env)
  | ex (x : Exc) (e : Env)
def R.bind {α β : Type} (r : R α) (k : α → Env → R β) : R β := match r with
  | .no => .no
  | .ok a e => k a e
  | .ex x e => .ex x e
@[simp] theorem R.bind_no {α β : Type} (k : α → Env → R β) : R.bind .no k = .no := rfl
@[simp] theorem R.bind_ok {α β : Type} (a : α) (e : Env) (k : α → Env → R β) : R.bind (.ok a e) k = k a e := rfl
@[simp] theorem R.bind_ex {α β : Type} (x : Exc) (e : Env) (k : α → Env → R β) : R.bind (.ex x e : R α) k = .ex x e := rfl
abbrev M (α : Type) := Env → R α
def ofO {α : Type} (o : Option α) (e : Env) : R α := match o with
  | some a => .ok a e
  | none => .no
@[simp] theorem ofO_some {α : Type} (a : α) (e : Env) : ofO (some a) e = .ok a e := rfl
@[simp] theorem ofO_none {α : Type} (e : Env) : ofO (none : Option α) e = .no := rfl

/-- where one stands: the entry, and what is in hand beside the names -/
structure Bs where
  G0 : Hp
  H0 : Hp
  io : List Addr
  xs : List (Option V)
  ts : List (Option D)
def Bs.At (B : Bs) (C : Ct) (G H : Hp) (σ : L2.St) (env : Env) : Prop := Post C B.G0 B.H0 B.io G H (σ ++ B.xs) (env ++ B.ts)
def Bs.push (B : Bs) (v : V) (d : D) : Bs := { B with xs := B.xs ++ [some v], ts := B.ts ++ [some d] }
abbrev WX := Value → Option Addr → L2.St → Hp → Prop
/-- an error in the heap -/
def XOk (C : Ct) (G H : Hp) (x : Exc) (cls : Value) (dd : Option Addr) : Prop :=
  ∃ A, C.mg x.c = some (.ref A) ∧ cls = .ref A ∧ ((x.ns = [] ∧ x.ds = []) ∨ ∃ d vs, dd = some d ∧ H d = some (.xd (x.ns.zip vs)) ∧ vs.length = x.ns.length ∧ RepFs C G x.ds vs)
def Out {α : Type} (C : Ct) (W : WX) (B : Bs) (σ : L2.St) (r : R α) (k : α → Env → Prop) : Prop := match r with
  | .no => False
  | .ok a e => k a e
  | .ex x e => ∀ G' H' cls dd, e.length = σ.length → B.At C G' H' σ e → XOk C G' H' x cls dd → W cls dd σ H'
theorem Out.bind {α β : Type} {C : Ct} {W : WX} {B : Bs} {σ : L2.St} {r : R α} {f : α → Env → R β} {k : β → Env → Prop} (h : Out C W B σ (r.bind f) k) : Out C W B σ r fun a e => Out C W B σ (f a e) k := by
  cases r <;> exact h
theorem Out.mono {α : Type} {C : Ct} {W : WX} {B : Bs} {σ : L2.St} {r : R α} {k k' : α → Env → Prop} (h : Out C W B σ r k) (i : ∀ a e, r = .ok a e → k a e → k' a e) : Out C W B σ r k' := by
  cases r with
  | no => exact h
  | ok a e => exact i a e rfl h
  | ex x e => exact h
/-- an expression -/
def rdE (C : Ct) (W : WX) (f : M D) : TE := fun σ H Q => ∃ (B : Bs) (G : Hp) (env : Env), env.length = σ.length ∧ B.At C G H σ env ∧
  Out C W B σ (f env) fun d env' => ∀ G' H' v, env'.length = σ.length → (B.push v d).At C G' H' σ env' → Q v H'
/-- a test -/
def rdT (C : Ct) (W : WX) (f : M Bool) : TT := fun σ H Q => ∃ (B : Bs) (G : Hp) (env : Env), env.length = σ.length ∧ B.At C G H σ env ∧
  Out C W B σ (f env) fun b env' => ∀ G' H', env'.length = σ.length → B.At C G' H' σ env' → Q b H'
/-- an argument: a value, or the name at i as it stands -/
inductive AR where
  | v (d : D) | s (i : Nat) | o (d : D)
def AR.d : AR → Option D
  | .v d => some d
  | .s _ => none
  | .o d => some d
def Bs.pushs (B : Bs) (vs : List V) (as : List AR) : Bs := { B with xs := B.xs ++ vs.map some, ts := B.ts ++ as.map AR.d }
def rdA (C : Ct) (W : WX) (f : M (List AR)) : TA := fun σ H Q => ∃ (B : Bs) (G : Hp) (env : Env), env.length = σ.length ∧ B.At C G H σ env ∧
  Out C W B σ (f env) fun as env' => ∀ G' H' vs, env'.length = σ.length → (B.pushs vs as).At C G' H' σ env' → (∀ (j i : Nat), as[j]? = some (.s i) → ∃ v, vs[j]? = some v ∧ σ[i]? = some (some v)) → vs.length = as.length → Q vs H'

theorem imE {X : Cx} {e : Expr} {t t' : TE} (h : PE X e t) (i : ∀ σ H Q, t' σ H Q → t σ H Q) : PE X e t' := ⟨fun pins s σ H Q I q => h.run pins s σ H Q I (i _ _ _ q)⟩
theorem imT {X : Cx} {e : Expr} {t t' : TT} (h : PT X e t) (i : ∀ σ H Q, t' σ H Q → t σ H Q) : PT X e t' := ⟨fun pins s σ H Q I q => h.run pins s σ H Q I (i _ _ _ q)⟩
theorem imW {X : Cx} {e : Expr} {t t' : TT} (h : PW X e t) (i : ∀ σ H Q, t' σ H Q → t σ H Q) : PW X e t' := ⟨fun w pins s σ H Q I q => h.run w pins s σ H Q I (i _ _ _ q)⟩
theorem imA {X : Cx} {e : List Expr} {t t' : TA} (h : PA X e t) (i : ∀ σ H Q, t' σ H Q → t σ H Q) : PA X e t' := ⟨fun pos pins s σ H Q I q => h.run pos pins s σ H Q I (i _ _ _ q)⟩
theorem imS {X : Cx} {e : Stmt} {t t' : TS} (h : PS X e t) (i : ∀ D σ H, t' D σ H → t D σ H) : PS X e t' := ⟨fun pins s σ H D I q => h.run pins s σ H D I (i _ _ _ q)⟩
theorem imSs {X : Cx} {e : List Stmt} {t t' : TS} (h : PSs X e t) (i : ∀ D σ H, t' D σ H → t D σ H) : PSs X e t' := ⟨fun pins s σ H D I q => h.run pins s σ H D I (i _ _ _ q)⟩

/-! ### more of what is held -/
section
variable {C : Ct} {G0 H0 G H G' H' : Hp} {io : List Addr} {σ A M : List (Option V)} {ds As Ms : List (Option D)}
theorem Post.dropTail (P : Post C G0 H0 io G H (A ++ M) (As ++ Ms)) (hl : A.length = As.length) : Post C G0 H0 io G H A As := by
  refine P.sub (fun i => if i < As.length then some i else none) hl (fun i d hd => ?_) fun a b j h1 h2 => ?_
  · have hi := (List.getElem?_eq_some_iff.mp hd).1
    refine ⟨i, if_pos hi, ?_, ?_⟩
    · rw [List.getElem?_append_left hi]; exact hd
    · rw [List.getElem?_append_left (by omega)]
  · split at h1
    · split at h2
      · cases h1; cases h2; rfl
      · cases h2
    · cases h1
theorem Post.dropMid {v : Option V} {d : Option D} (P : Post C G0 H0 io G H (A ++ M ++ [v]) (As ++ Ms ++ [d])) (hl : A.length = As.length) : Post C G0 H0 io G H (A ++ [v]) (As ++ [d]) := by
  have hm : M.length = Ms.length := by have := P.len; simp at this; omega
  refine P.sub (fun i => if i < As.length then some i else if i = As.length then some (As.length + Ms.length) else none) (by simp [hl]) (fun i e hd => ?_) fun a b j h1 h2 => ?_
  · have hi := (List.getElem?_eq_some_iff.mp hd).1
    rw [List.length_append, List.length_singleton] at hi
    by_cases h : i < As.length
    · refine ⟨i, if_pos h, ?_, ?_⟩
      · rw [List.getElem?_append_left h] at hd
        rw [List.append_assoc, List.getElem?_append_left h]; exact hd
      · rw [List.append_assoc, List.getElem?_append_left (by omega), List.getElem?_append_left (by omega)]
    · have e1 : i = As.length := by omega
      subst e1
      refine ⟨As.length + Ms.length, by simp, ?_, ?_⟩
      · rw [List.getElem?_append_right (Nat.le_refl _), Nat.sub_self] at hd
        rw [List.getElem?_append_right (by simp), List.length_append, Nat.sub_self]; exact hd
      · rw [List.getElem?_append_right (by omega), List.getElem?_append_right (by simp; omega), List.length_append, hl, hm, Nat.sub_self, Nat.sub_self]
  · split at h1 <;> split at h2 <;> (try split at h1) <;> (try split at h2) <;> (try cases h1) <;> (try cases h2) <;> omega
theorem set_snoc {α : Type} (A B : List α) (x y : α) : (A ++ x :: B).set A.length y = A ++ y :: B := by
  rw [List.set_append_right _ _ (Nat.le_refl _), Nat.sub_self]; rfl
/-- what is in hand last is shared from now on -/
theorem Post.fzTail : ∀ (es : List D) (vs : List V) (A : List (Option V)) (As : List (Option D)) {G : Hp}, A.length = As.length → Post C G0 H0 io G H (A ++ vs.map some) (As ++ es.map some) →
    ∃ G', Same G G' ∧ Post C G0 H0 io G' H (A ++ vs.map some) (As ++ (frzs es).map some) ∧ RepFs C G' (frzs es) vs
  | [], vs, A, As, G, hl, P => by
    have hv : vs = [] := by
      have := P.len
      simp [hl] at this
      exact this
    subst hv
    exact ⟨G, Same.refl _, P, rfl⟩
  | e :: es, vs, A, As, G, hl, P => by
    obtain ⟨v, vr, rfl⟩ : ∃ v vr, vs = v :: vr := by
      cases vs with
      | nil => have := P.len; simp [hl] at this
      | cons v vr => exact ⟨v, vr, rfl⟩
    have hd : (As ++ (e :: es).map some)[As.length]? = some (some e) := by simp
    obtain ⟨G1, w, s1, hw, r1, P1⟩ := P.freeze hd
    rw [← hl] at hw
    have hw' : w = v := by simpa using hw.symm
    subst hw'
    have e1 : (As ++ (e :: es).map some).set As.length (some (frz e)) = (As ++ [some (frz e)]) ++ es.map some := by
      rw [List.map_cons, set_snoc]; simp
    rw [e1] at P1
    have e2 : A ++ (w :: vr).map some = (A ++ [some w]) ++ vr.map some := by simp
    rw [e2] at P1 ⊢
    obtain ⟨G2, s2, P2, r2⟩ := Post.fzTail es vr (A ++ [some w]) (As ++ [some (frz e)]) (by simp [hl]) P1
    refine ⟨G2, s1.trans s2, ?_, w, vr, rfl, RepF.mono s2 _ _ r1, r2⟩
    rw [frzs, List.map_cons]
    simpa using P2
end

/-! ### names, constants -/
section
variable {C : Ct} {W : WX} {X : Cx}
def eVar (i : Nat) : M D := fun env => match env[i]? with
  | some (some d) => .ok (frz d) (env.set i (some (frz d)))
  | _ => .no
/-- the name's value is handed on; the name has it no more -/
def eMv (i : Nat) : M D := fun env => match env[i]? with
  | some (some d) => .ok d (env.set i none)
  | _ => .no
theorem pe_v {x : Str} {pos : Pos} (i : Nat) (h : PE X (.Name x pos) (tVar i)) : PE X (.Name x pos) (rdE C W (eVar i)) := imE h fun σ H Q ⟨B, G, env, hl, P, o⟩ => by
  unfold eVar at o
  split at o
  · rename_i d hd
    have hi := (List.getElem?_eq_some_iff.mp hd).1
    have hd2 : (env ++ B.ts)[i]? = some (some d) := by rw [List.getElem?_append_left hi]; exact hd
    obtain ⟨G1, v, s1, hv, r, P1⟩ := Post.freeze P hd2
    rw [List.getElem?_append_left (by omega)] at hv
    refine ⟨v, hv, o G1 H v (by simpa using hl) ?_⟩
    rw [List.set_append_left _ _ hi] at P1
    have := P1.push r
    unfold Bs.At Bs.push
    rwa [List.append_assoc, List.append_assoc] at this
  · exact o.elim
theorem pe_mv {x : Str} {pos : Pos} (i : Nat) (h : PE X (.Name x pos) (tVar i)) : PE X (.Name x pos) (rdE C W (eMv i)) := imE h fun σ H Q ⟨B, G, env, hl, P, o⟩ => by
  unfold eMv at o
  split at o
  · rename_i d hd
    have hi := (List.getElem?_eq_some_iff.mp hd).1
    obtain ⟨fpf, O, _⟩ := id (show Post _ _ _ _ _ _ _ _ from P).own
    obtain ⟨v, hv, _⟩ := O.rep i d (by rw [List.getElem?_append_left hi]; exact hd)
    have hv' := hv
    rw [List.getElem?_append_left (by omega)] at hv
    have hL := (show Post _ _ _ _ _ _ _ _ from P).len
    refine ⟨v, hv, o G H v (by simpa using hl) ?_⟩
    unfold Bs.At Bs.push
    refine Post.sub (fun j => if j = i then none else if j = env.length + B.ts.length then some i else if j < env.length + B.ts.length then some j else none) P (by simp at hL ⊢; omega) (fun j e he => ?_) fun a b j h1 h2 => ?_
    · have hj := (List.getElem?_eq_some_iff.mp he).1
      simp only [List.length_append, List.length_set, List.length_singleton] at hj
      by_cases q1 : j = i
      · subst q1
        rw [List.getElem?_append_left (by simpa using hi), List.getElem?_set_self hi] at he
        cases he
      · by_cases q2 : j = env.length + B.ts.length
        · subst q2
          refine ⟨i, by rw [if_neg q1, if_pos rfl], ?_, ?_⟩
          · rw [List.getElem?_append_right (by simp)] at he
            simp at he
            subst he
            rw [List.getElem?_append_left hi]; exact hd
          · rw [hv', List.getElem?_append_right (by omega)]
            simp at hL
            have e0 : env.length + B.ts.length - σ.length = B.xs.length := by omega
            simp [e0]
        · have q3 : j < env.length + B.ts.length := by omega
          refine ⟨j, by rw [if_neg q1, if_neg q2, if_pos q3], ?_, ?_⟩
          · rw [← List.append_assoc, List.getElem?_append_left (by simpa using q3), ← List.set_append_left _ _ hi, List.getElem?_set_ne (Ne.symm q1)] at he
            exact he
          · simp at hL
            rw [← List.append_assoc, List.getElem?_append_left (by simp; omega)]
    · split at h1 <;> split at h2 <;> (try split at h1) <;> (try split at h2) <;> (try split at h1) <;> (try split at h2) <;> (try cases h1) <;> (try cases h2) <;> omega
  · exact o.elim
/-- what is the same for ever: a constant, a module's tuple -/
def eC (d : D) : M D := fun env => .ok d env
theorem pe_k {e : Expr} {v : V} {d : D} (h : PE X e (tC v)) (r : ∀ G, RepF C G d v := by intro G; rfl) : PE X e (rdE C W (eC d)) := imE h fun σ H Q ⟨B, G, env, hl, P, o⟩ => by
  refine o G H v hl ?_
  have := Post.push P (r G)
  unfold Bs.At Bs.push
  rwa [List.append_assoc, List.append_assoc] at this

/-! ### operations on shared values -/
def rVs (C : Ct) (g : List D → Option D) : List V → Hp → VK → Prop := fun vs H Q => ∃ G ds d, Same G H ∧ RepFs C G ds vs ∧ g ds = some d ∧ ∀ G' H' v fp, Grow G H G' H' fp → RepO C G' H' d v fp → Q v H'
def rV2 (C : Ct) (g : D → D → Option D) : R2 := fun x y H Q => ∃ G a b d, Same G H ∧ RepF C G a x ∧ RepF C G b y ∧ g a b = some d ∧ ∀ G' H' v fp, Grow G H G' H' fp → RepO C G' H' d v fp → Q v H'
def rV1 (C : Ct) (g : D → Option D) : V → Hp → VK → Prop := fun x H Q => ∃ G a d, Same G H ∧ RepF C G a x ∧ g a = some d ∧ ∀ G' H' v fp, Grow G H G' H' fp → RepO C G' H' d v fp → Q v H'
def e2 (g : D → D → Option D) (fa fb : M D) : M D := fun env => (fa env).bind fun a e1 => (fb e1).bind fun b e2 => ofO (g (frz a) (frz b)) e2
def e1 (g : D → Option D) (fa : M D) : M D := fun env => (fa env).bind fun a e1 => ofO (g (frz a)) e1
theorem at_len {B : Bs} {G H : Hp} {σ : L2.St} {env : Env} (P : B.At C G H σ env) (hl : env.length = σ.length) : B.xs.length = B.ts.length := by
  have := Post.len P
  simp at this
  omega
theorem rd_e2 {g : D → D → Option D} {fa fb : M D} {σ : L2.St} {H : Hp} {Q : VK} (h : rdE C W (e2 g fa fb) σ H Q) : tOp (rV2 C g) (rdE C W fa) (rdE C W fb) σ H Q := by
  obtain ⟨B, G, env, hl, P, o⟩ := h
  have hx := at_len P hl
  refine ⟨B, G, env, hl, P, o.bind.mono fun a e1 _ o1 => ?_⟩
  intro G1 H1 v1 l1 P1
  refine ⟨B.push v1 a, G1, e1, l1, P1, ?_⟩
  have o2 : Out C W (B.push v1 a) σ ((fb e1).bind fun b e2 => ofO (g (frz a) (frz b)) e2) (fun d env' => ∀ G' H' v, env'.length = σ.length → (B.push v d).At C G' H' σ env' → Q v H') := by
    revert o1
    generalize ((fb e1).bind fun b e2 => ofO (g (frz a) (frz b)) e2) = r
    intro o1
    cases r with
    | no => exact o1
    | ok d e => exact o1
    | ex x e =>
      intro G' H' cls dd he P' X'
      refine o1 G' H' cls dd he ?_ X'
      have : Post C B.G0 B.H0 B.io G' H' ((σ ++ B.xs) ++ [some v1]) ((e ++ B.ts) ++ [some a]) := by
        unfold Bs.At Bs.push at P'
        simpa [List.append_assoc] using P'
      exact this.pop
  refine o2.bind.mono fun b e2 _ o3 => ?_
  intro G2 H2 v2 l2 P2
  have P2' : Post C B.G0 B.H0 B.io G2 H2 ((σ ++ B.xs) ++ [v1, v2].map some) ((e2 ++ B.ts) ++ [a, b].map some) := by
    unfold Bs.At Bs.push at P2
    simpa [List.append_assoc] using P2
  obtain ⟨G3, s3, P3, r3⟩ := Post.fzTail _ _ _ _ (by simp; omega) P2'
  obtain ⟨x, r, e3, ra, y, r', e4, rb, _⟩ := r3
  cases e3
  cases e4
  cases hg : g (frz a) (frz b) with
  | none => rw [hg] at o3; exact o3.elim
  | some d =>
    rw [hg] at o3
    refine ⟨G3, frz a, frz b, d, P3.gh, ra, rb, hg, fun G' H' v fp gr ro => o3 G' H' v l2 ?_⟩
    have := (P3.grow gr ro).dropMid (by simp; omega)
    unfold Bs.At Bs.push
    simpa [List.append_assoc] using this
theorem rd_e1 {g : D → Option D} {fa : M D} {σ : L2.St} {H : Hp} {Q : VK} (h : rdE C W (e1 g fa) σ H Q) : rdE C W fa σ H fun x H1 => rV1 C g x H1 Q := by
  obtain ⟨B, G, env, hl, P, o⟩ := h
  have hx := at_len P hl
  refine ⟨B, G, env, hl, P, o.bind.mono fun a e1 _ o3 => ?_⟩
  intro G1 H1 v1 l1 P1
  have P2' : Post C B.G0 B.H0 B.io G1 H1 ((σ ++ B.xs) ++ [v1].map some) ((e1 ++ B.ts) ++ [a].map some) := by
    unfold Bs.At Bs.push at P1
    simpa [List.append_assoc] using P1
  obtain ⟨G3, s3, P3, r3⟩ := Post.fzTail _ _ _ _ (by simp; omega) P2'
  obtain ⟨x, r, e3, ra, _⟩ := r3
  cases e3
  cases hg : g (frz a) with
  | none => rw [hg] at o3; exact o3.elim
  | some d =>
    rw [hg] at o3
    refine ⟨G3, frz a, d, P3.gh, ra, hg, fun G' H' v fp gr ro => o3 G' H' v l1 ?_⟩
    have := (P3.grow gr ro).dropMid (by simp; omega)
    unfold Bs.At Bs.push
    simpa [List.append_assoc] using this
theorem pe_2 {a b : Expr} {op : Operator} {pos : Pos} {g : D → D → Option D} {fa fb : M D} (ho : OpR X (binaryOp op) (rV2 C g)) (ha : PE X a (rdE C W fa)) (hb : PE X b (rdE C W fb)) : PE X (.BinOp a op b pos) (rdE C W (e2 g fa fb)) :=
  imE (pe_op ho ha hb) fun _ _ _ h => rd_e2 h
theorem pe_u {a : Expr} {op : UnaryOp} {pos : Pos} {g : D → Option D} {fa : M D} (ho : UnR X (unaryOp op) (rV1 C g)) (ha : PE X a (rdE C W fa)) : PE X (.UnaryOp op a pos) (rdE C W (e1 g fa)) :=
  imE (pe_un ho ha) fun _ _ _ h => rd_e1 h
theorem pe_c {a b : Expr} {op : CmpOp} {pos : Pos} {g : D → D → Option D} {fa fb : M D} (ho : OpR X (compareOp op) (rV2 C g)) (ha : PE X a (rdE C W fa)) (hb : PE X b (rdE C W fb)) (hm : behindInMarks op b = false) : PE X (.Compare a [op] [b] pos) (rdE C W (e2 g fa fb)) :=
  imE (pe_cmpR ho ha hb hm) fun _ _ _ h => rd_e2 h
theorem pe_i {a b : Expr} {pos : Pos} {g : D → D → Option D} {fa fb : M D} (ho : IxR X (rV2 C g)) (ha : PE X a (rdE C W fa)) (hb : PE X b (rdE C W fb)) (hs : PlainIx b) : PE X (.Subscript a b pos) (rdE C W (e2 g fa fb)) :=
  imE (pe_ix ho ha hb hs) fun _ _ _ h => rd_e2 h

/-! ### tests -/
def isBl : D → Option Bool
  | .bl b => some b
  | _ => none
def tst (fe : M D) : M Bool := fun env => (fe env).bind fun d e => ofO (isBl d) e
theorem rd_tst {fe : M D} {σ : L2.St} {H : Hp} {Q : Bool → Hp → Prop} (h : rdT C W (tst fe) σ H Q) : rdE C W fe σ H fun x H' => ∃ k, x = .bl k ∧ Q k H' := by
  obtain ⟨B, G, env, hl, P, o⟩ := h
  refine ⟨B, G, env, hl, P, o.bind.mono fun a e1 _ o3 => ?_⟩
  intro G1 H1 v1 l1 P1
  cases a with
  | bl b =>
    obtain ⟨fpf, O, _⟩ := id (show Post _ _ _ _ _ _ _ _ from P1).own
    have hx := at_len P hl
    have : ∃ v, (σ ++ (B.push v1 (.bl b)).xs)[e1.length + B.ts.length]? = some (some v) ∧ RepO C G1 H1 (.bl b) v (fpf (e1.length + B.ts.length)) := O.rep _ _ (by simp [Bs.push])
    obtain ⟨v, q1, q2⟩ := this
    have e : v = v1 := by
      have : (σ ++ (B.push v1 (D.bl b)).xs)[e1.length + B.ts.length]? = some (some v1) := by
        have e0 : e1.length + B.ts.length = σ.length + B.xs.length := by omega
        rw [e0]; simp [Bs.push]
      rw [this] at q1
      simpa using q1.symm
    subst e
    refine ⟨b, q2.1, o3 G1 H1 l1 ?_⟩
    have : Post C B.G0 B.H0 B.io G1 H1 ((σ ++ B.xs) ++ [some v]) ((e1 ++ B.ts) ++ [some (.bl b)]) := by
      unfold Bs.At Bs.push at P1
      simpa [List.append_assoc] using P1
    exact this.pop
  | _ => exact o3.elim
theorem pt_v {e : Expr} {fe : M D} (h : PE X e (rdE C W fe)) (he : ∀ whole, isTrue e X.env whole = (do let v ← whole; standAt e.pos; holding [v] (truthy v)) := by intro _; rfl) : PT X e (rdT C W (tst fe)) :=
  imT (pt_val h he) fun _ _ _ h => rd_tst h
theorem pt_c {a b : Expr} {op : CmpOp} {pos : Pos} {g : D → D → Option D} {fa fb : M D} (ho : OpR X (compareOp op) (rV2 C g)) (ha : PE X a (rdE C W fa)) (hb : PE X b (rdE C W fb)) (hm : behindInMarks op b = false) : PT X (.Compare a [op] [b] pos) (rdT C W (tst (e2 g fa fb))) :=
  imT (pt_cmpR ho ha hb hm) fun _ _ _ h => rd_e2 (rd_tst h)
def tAndM (ft fu : M Bool) : M Bool := fun env => (ft env).bind fun b e => if b then fu e else .ok false e
def tOrM (ft fu : M Bool) : M Bool := fun env => (ft env).bind fun b e => if b then .ok true e else fu e
def tNotM (ft : M Bool) : M Bool := fun env => (ft env).bind fun b e => .ok (!b) e
theorem rdT_seq {ft : M Bool} {k : Bool → M Bool} {σ : L2.St} {H : Hp} {Q : Bool → Hp → Prop} (h : rdT C W (fun env => (ft env).bind k) σ H Q) : rdT C W ft σ H fun b H1 => rdT C W (k b) σ H1 Q := by
  obtain ⟨B, G, env, hl, P, o⟩ := h
  refine ⟨B, G, env, hl, P, o.bind.mono fun a e1 _ o3 => ?_⟩
  intro G1 H1 l1 P1
  exact ⟨B, G1, e1, l1, P1, o3⟩
theorem rdT_ok {b : Bool} {σ : L2.St} {H : Hp} {Q : Bool → Hp → Prop} (h : rdT C W (fun e => .ok b e) σ H Q) : Q b H := by
  obtain ⟨B, G, env, hl, P, o⟩ := h
  exact o G H hl P
theorem pw_1 {a : Expr} {pos : Pos} {ft : M Bool} (ha : PT X a (rdT C W ft)) : PW X (.BoolOp .And [a] pos) (rdT C W ft) := pw_and1 ha
theorem pw_1o {a : Expr} {pos : Pos} {ft : M Bool} (ha : PT X a (rdT C W ft)) : PW X (.BoolOp .Or [a] pos) (rdT C W ft) := pw_or1 ha
theorem pw_a {a b : Expr} {rest : List Expr} {pos : Pos} {ft fu : M Bool} (ha : PT X a (rdT C W ft)) (hb : PW X (.BoolOp .And (b :: rest) pos) (rdT C W fu)) : PW X (.BoolOp .And (a :: b :: rest) pos) (rdT C W (tAndM ft fu)) :=
  imW (pw_and ha hb) fun σ H Q h => by
    have h1 := rdT_seq (k := fun b e => if b then fu e else .ok false e) h
    obtain ⟨B, G, env, hl, P, o⟩ := h1
    refine ⟨B, G, env, hl, P, o.mono fun b e _ q G1 H1 l1 P1 => ?_⟩
    have := q G1 H1 l1 P1
    cases b with
    | true => exact this
    | false => exact rdT_ok this
theorem pw_o {a b : Expr} {rest : List Expr} {pos : Pos} {ft fu : M Bool} (ha : PT X a (rdT C W ft)) (hb : PW X (.BoolOp .Or (b :: rest) pos) (rdT C W fu)) : PW X (.BoolOp .Or (a :: b :: rest) pos) (rdT C W (tOrM ft fu)) :=
  imW (pw_or ha hb) fun σ H Q h => by
    have h1 := rdT_seq (k := fun b e => if b then .ok true e else fu e) h
    obtain ⟨B, G, env, hl, P, o⟩ := h1
    refine ⟨B, G, env, hl, P, o.mono fun b e _ q G1 H1 l1 P1 => ?_⟩
    have := q G1 H1 l1 P1
    cases b with
    | true => exact rdT_ok this
    | false => exact this
theorem pt_n {a : Expr} {pos : Pos} {ft : M Bool} (ha : PT X a (rdT C W ft)) : PT X (.UnaryOp .Not a pos) (rdT C W (tNotM ft)) :=
  imT (pt_not ha) fun σ H Q h => by
    have h1 := rdT_seq (k := fun b e => .ok (!b) e) h
    obtain ⟨B, G, env, hl, P, o⟩ := h1
    refine ⟨B, G, env, hl, P, o.mono fun b e _ q G1 H1 l1 P1 => rdT_ok (q G1 H1 l1 P1)⟩
/-- and, or, not as values; the first a truth -/
def eAnd (fa fb : M D) : M D := fun env => (tst fa env).bind fun b e => if b then fb e else .ok (.bl false) e
def eOr (fa fb : M D) : M D := fun env => (tst fa env).bind fun b e => if b then .ok (.bl true) e else fb e
def eNot (fa : M D) : M D := fun env => (tst fa env).bind fun b e => .ok (.bl (!b)) e
def eIf (ft : M Bool) (fa fb : M D) : M D := fun env => (ft env).bind fun b e => if b then fa e else fb e
theorem rdE_t {ft : M Bool} {k : Bool → M D} {σ : L2.St} {H : Hp} {Q : VK} (h : rdE C W (fun env => (ft env).bind k) σ H Q) : rdT C W ft σ H fun b H1 => rdE C W (k b) σ H1 Q := by
  obtain ⟨B, G, env, hl, P, o⟩ := h
  refine ⟨B, G, env, hl, P, o.bind.mono fun a e1 _ o3 => ?_⟩
  intro G1 H1 l1 P1
  exact ⟨B, G1, e1, l1, P1, o3⟩
theorem rdE_c {d : D} {v : V} {σ : L2.St} {H : Hp} {Q : VK} (h : rdE C W (fun e => .ok d e) σ H Q) (r : ∀ G, RepF C G d v) : Q v H := by
  obtain ⟨B, G, env, hl, P, o⟩ := h
  refine o G H v hl ?_
  have := Post.push P (r G)
  unfold Bs.At Bs.push
  rwa [List.append_assoc, List.append_assoc] at this
theorem rdT_mono {ft : M Bool} {σ : L2.St} {H : Hp} {Q Q' : Bool → Hp → Prop} (h : rdT C W ft σ H Q) (i : ∀ b H1, Q b H1 → Q' b H1) : rdT C W ft σ H Q' := by
  obtain ⟨B, G, env, hl, P, o⟩ := h
  exact ⟨B, G, env, hl, P, o.mono fun b e _ q G1 H1 l1 P1 => i _ _ (q G1 H1 l1 P1)⟩
theorem rdE_mono {f : M D} {σ : L2.St} {H : Hp} {Q Q' : VK} (h : rdE C W f σ H Q) (i : ∀ v H1, Q v H1 → Q' v H1) : rdE C W f σ H Q' := by
  obtain ⟨B, G, env, hl, P, o⟩ := h
  exact ⟨B, G, env, hl, P, o.mono fun b e _ q G1 H1 v l1 P1 => i _ _ (q G1 H1 v l1 P1)⟩
theorem pe_1 {op : BoolOp} {a : Expr} {pos : Pos} {fa : M D} (h : PE X a (rdE C W fa)) : PE X (.BoolOp op [a] pos) (rdE C W fa) := pe_one h
theorem pe_a {a b : Expr} {rest : List Expr} {pos : Pos} {fa fb : M D} (ha : PE X a (rdE C W fa)) (hb : PE X (.BoolOp .And (b :: rest) pos) (rdE C W fb)) : PE X (.BoolOp .And (a :: b :: rest) pos) (rdE C W (eAnd fa fb)) :=
  imE (pe_and ha hb) fun σ H Q h => rdE_mono (rd_tst (rdE_t (k := fun b e => if b then fb e else .ok (.bl false) e) h)) fun v H1 ⟨k, e, q⟩ => ⟨k, e, by
    cases k with
    | true => exact iteT q
    | false => exact iteF (rdE_c q fun _ => rfl)⟩
theorem pe_o {a b : Expr} {rest : List Expr} {pos : Pos} {fa fb : M D} (ha : PE X a (rdE C W fa)) (hb : PE X (.BoolOp .Or (b :: rest) pos) (rdE C W fb)) : PE X (.BoolOp .Or (a :: b :: rest) pos) (rdE C W (eOr fa fb)) :=
  imE (pe_or ha hb) fun σ H Q h => rdE_mono (rd_tst (rdE_t (k := fun b e => if b then .ok (.bl true) e else fb e) h)) fun v H1 ⟨k, e, q⟩ => ⟨k, e, by
    cases k with
    | true => exact iteT (rdE_c q fun _ => rfl)
    | false => exact iteF q⟩
theorem pe_n {a : Expr} {pos : Pos} {fa : M D} (ha : PE X a (rdE C W fa)) : PE X (.UnaryOp .Not a pos) (rdE C W (eNot fa)) :=
  imE (pe_not ha) fun σ H Q h => rdE_mono (rd_tst (rdE_t (k := fun b e => .ok (.bl (!b)) e) h)) fun v H1 ⟨k, e, q⟩ => ⟨k, e, rdE_c q fun _ => rfl⟩
theorem pe_if {c a b : Expr} {pos : Pos} {ft : M Bool} {fa fb : M D} (hc : PT X c (rdT C W ft)) (ha : PE X a (rdE C W fa)) (hb : PE X b (rdE C W fb)) : PE X (.IfExp c a b pos) (rdE C W (eIf ft fa fb)) :=
  imE (pe_ifExp hc ha hb) fun σ H Q h => rdT_mono (rdE_t (k := fun b e => if b then fa e else fb e) h) fun b H1 q => by
    cases b with
    | true => exact iteT q
    | false => exact iteF q

/-! ### arguments, displays, built-in calls -/
def aNil : M (List AR) := fun env => .ok [] env
def aCons (fa : M D) (fr : M (List AR)) : M (List AR) := fun env => (fa env).bind fun d e => (fr e).bind fun as e2 => .ok (.v d :: as) e2
def aOwn (fa : M D) (fr : M (List AR)) : M (List AR) := fun env => (fa env).bind fun d e => (fr e).bind fun as e2 => .ok (.o d :: as) e2
def aSlot (i : Nat) (fr : M (List AR)) : M (List AR) := fun env => match env[i]? with
  | some (some _) => (fr env).bind fun as e2 => .ok (.s i :: as) e2
  | _ => .no
theorem pa_0 : PA X [] (rdA C W aNil) := imA pa_nil fun σ H Q ⟨B, G, env, hl, P, o⟩ => by
  refine o G H [] hl ?_ (fun j i z => by simp at z) rfl
  show Post _ _ _ _ _ _ _ _
  unfold Bs.pushs
  simpa using (show Post _ _ _ _ _ _ _ _ from P)
/-- what is said beneath what is in hand -/
theorem Out.under {α : Type} {B : Bs} {v : V} {d : Option D} {σ : L2.St} {r : R α} {k : α → Env → Prop} (hx : B.xs.length = B.ts.length) (h : Out C W B σ r k) : Out C W { B with xs := B.xs ++ [some v], ts := B.ts ++ [d] } σ r k := by
  cases r with
  | no => exact h
  | ok a e => exact h
  | ex x e =>
    intro G' H' cls dd he P' X'
    refine h G' H' cls dd he ?_ X'
    have : Post C B.G0 B.H0 B.io G' H' ((σ ++ B.xs) ++ [some v]) ((e ++ B.ts) ++ [d]) := by
      unfold Bs.At at P'
      simpa [List.append_assoc] using P'
    exact this.pop
theorem rd_cons {fa : M D} {fr : M (List AR)} {σ : L2.St} {H : Hp} {Q : List V → Hp → Prop} (h : rdA C W (aCons fa fr) σ H Q) : tCons (rdE C W fa) (rdA C W fr) σ H Q := by
  obtain ⟨B, G, env, hl, P, o⟩ := h
  have hx := at_len P hl
  refine ⟨B, G, env, hl, P, o.bind.mono fun a e1 _ o1 => ?_⟩
  intro G1 H1 v1 l1 P1
  refine ⟨B.push v1 a, G1, e1, l1, P1, ((Out.under (v := v1) (d := some a) hx o1).bind).mono fun as e2 _ o2 => ?_⟩
  intro G2 H2 vs l2 P2 hs hn
  refine o2 G2 H2 (v1 :: vs) l2 ?_ (fun j i hj => ?_) (by simp [hn])
  · unfold Bs.At Bs.pushs Bs.push at P2
    unfold Bs.At Bs.pushs
    simpa [List.append_assoc, AR.d] using P2
  · cases j with
    | zero => simp at hj
    | succ j => exact hs j i (by simpa using hj)
theorem pa_1 {e : Expr} {es : List Expr} {fa : M D} {fr : M (List AR)} (ha : PE X e (rdE C W fa)) (hr : PA X es (rdA C W fr)) (hs : starEach (e :: es) X.env = (false, eval e X.env) :: starEach es X.env := by rfl) : PA X (e :: es) (rdA C W (aCons fa fr)) :=
  imA (pa_cons ha hr hs) fun _ _ _ h => rd_cons h
theorem rd_own {fa : M D} {fr : M (List AR)} {σ : L2.St} {H : Hp} {Q : List V → Hp → Prop} (h : rdA C W (aOwn fa fr) σ H Q) : tCons (rdE C W fa) (rdA C W fr) σ H Q := by
  obtain ⟨B, G, env, hl, P, o⟩ := h
  have hx := at_len P hl
  refine ⟨B, G, env, hl, P, o.bind.mono fun a e1 _ o1 => ?_⟩
  intro G1 H1 v1 l1 P1
  refine ⟨B.push v1 a, G1, e1, l1, P1, ((Out.under (v := v1) (d := some a) hx o1).bind).mono fun as e2 _ o2 => ?_⟩
  intro G2 H2 vs l2 P2 hs hn
  refine o2 G2 H2 (v1 :: vs) l2 ?_ (fun j i hj => ?_) (by simp [hn])
  · unfold Bs.At Bs.pushs Bs.push at P2
    unfold Bs.At Bs.pushs
    simpa [List.append_assoc, AR.d] using P2
  · cases j with
    | zero => simp at hj
    | succ j => exact hs j i (by simpa using hj)
theorem pa_o {e : Expr} {es : List Expr} {fa : M D} {fr : M (List AR)} (ha : PE X e (rdE C W fa)) (hr : PA X es (rdA C W fr)) (hs : starEach (e :: es) X.env = (false, eval e X.env) :: starEach es X.env := by rfl) : PA X (e :: es) (rdA C W (aOwn fa fr)) :=
  imA (pa_cons ha hr hs) fun _ _ _ h => rd_own h
/-- the name at i as it stands, for a callee that may change it -/
theorem pa_s {x : Str} {pos : Pos} {es : List Expr} {fr : M (List AR)} (i : Nat) (h : PE X (.Name x pos) (tVar i)) (hr : PA X es (rdA C W fr)) (hs : starEach ((.Name x pos) :: es) X.env = (false, eval (.Name x pos) X.env) :: starEach es X.env := by rfl) :
    PA X ((.Name x pos) :: es) (rdA C W (aSlot i fr)) :=
  imA (pa_cons h hr hs) fun σ H Q ⟨B, G, env, hl, P, o⟩ => by
    have hx := at_len P hl
    unfold aSlot at o
    split at o
    · rename_i d hd
      have hi := (List.getElem?_eq_some_iff.mp hd).1
      obtain ⟨fpf, O, _⟩ := id (show Post _ _ _ _ _ _ _ _ from P).own
      obtain ⟨v, hv, _⟩ := O.rep i d (by rw [List.getElem?_append_left hi]; exact hd)
      rw [List.getElem?_append_left (by omega)] at hv
      refine ⟨v, hv, { B with xs := B.xs ++ [some v], ts := B.ts ++ [none] }, G, env, hl, ?_, (Out.under hx o).bind.mono fun as e2 _ o2 => ?_⟩
      · have hL := (show Post _ _ _ _ _ _ _ _ from P).len
        show Post _ _ _ _ _ _ _ _
        refine Post.sub (fun j => if j < env.length + B.ts.length then some j else none) P (by simp; omega) (fun j e he => ?_) fun a b j h1 h2 => ?_
        · have hj := (List.getElem?_eq_some_iff.mp he).1
          simp at hj
          by_cases q : j < env.length + B.ts.length
          · refine ⟨j, if_pos q, ?_, ?_⟩
            · rw [← List.append_assoc, List.getElem?_append_left (by simpa using q)] at he; exact he
            · rw [← List.append_assoc, List.getElem?_append_left (by simp; omega)]
          · have : j = env.length + B.ts.length := by omega
            subst this
            rw [← List.append_assoc, List.getElem?_append_right (by simp)] at he
            simp at he
        · split at h1 <;> split at h2 <;> (try cases h1) <;> (try cases h2) <;> omega
      · intro G2 H2 vs l2 P2 hs hn
        refine o2 G2 H2 (v :: vs) l2 ?_ (fun j k hj => ?_) (by simp [hn])
        · unfold Bs.At Bs.pushs at P2
          unfold Bs.At Bs.pushs
          simpa [List.append_assoc, AR.d] using P2
        · cases j with
          | zero =>
            simp at hj
            subst hj
            exact ⟨v, by simp, hv⟩
          | succ j => exact hs j k (by simpa using hj)
    · exact o.elim
/-- all arguments values -/
def vals : List AR → Option (List D)
  | [] => some []
  | .v d :: r => (vals r).map (d :: ·)
  | .s _ :: _ => none
  | .o _ :: _ => none
theorem vals_map : ∀ {as : List AR} {ds : List D}, vals as = some ds → as.map AR.d = ds.map some
  | [], ds, h => by cases h; rfl
  | .v d :: r, ds, h => by
    unfold vals at h
    cases e : vals r with
    | none => rw [e] at h; cases h
    | some es =>
      rw [e] at h
      cases h
      rw [List.map_cons, List.map_cons, vals_map e]; rfl
  | .s _ :: _, ds, h => by cases h
def eVs (g : List D → Option D) (fa : M (List AR)) : M D := fun env => (fa env).bind fun as e => ofO ((vals as).bind fun ds => g (frzs ds)) e
theorem rd_eVs {g : List D → Option D} {fa : M (List AR)} {σ : L2.St} {H : Hp} {Q : VK} (h : rdE C W (eVs g fa) σ H Q) : rdA C W fa σ H fun vs H1 => rVs C g vs H1 Q := by
  obtain ⟨B, G, env, hl, P, o⟩ := h
  have hx := at_len P hl
  refine ⟨B, G, env, hl, P, o.bind.mono fun as e1 _ o3 => ?_⟩
  intro G1 H1 vs l1 P1 _ hn
  cases hv : vals as with
  | none => rw [hv] at o3; exact o3.elim
  | some ds =>
    rw [hv] at o3
    have P2' : Post C B.G0 B.H0 B.io G1 H1 ((σ ++ B.xs) ++ vs.map some) ((e1 ++ B.ts) ++ ds.map some) := by
      unfold Bs.At Bs.pushs at P1
      rw [vals_map hv] at P1
      simpa [List.append_assoc] using P1
    obtain ⟨G3, s3, P3, r3⟩ := Post.fzTail _ _ _ _ (by simp; omega) P2'
    cases hg : g (frzs ds) with
    | none =>
      have : (some ds).bind (fun ds => g (frzs ds)) = none := hg
      rw [this] at o3; exact o3.elim
    | some d =>
      have : (some ds).bind (fun ds => g (frzs ds)) = some d := hg
      rw [this] at o3
      refine ⟨G3, frzs ds, d, P3.gh, r3, hg, fun G' H' v fp gr ro => o3 G' H' v l1 ?_⟩
      have := (P3.grow gr ro).dropMid (by simp; omega)
      unfold Bs.At Bs.push
      simpa [List.append_assoc] using this
theorem pe_b {x : Str} {p pos : Pos} {e : Expr} {es : List Expr} {id : String} {g : List D → Option D} {fa : M (List AR)} (hc : CallR X (.builtin id) (rVs C g)) (hg : Gl X x) (hm : X.mg x = none) (hv : bootBuiltins x = some (.builtin id)) (ha : PA X (e :: es) (rdA C W fa)) (hn : x ≠ "__name__" := by decide) (hdb : (x == ("__debug__" : Str)) = false := by decide)
    (he : starEach (e :: es) X.env = (false, eval e X.env) :: starEach es X.env := by rfl) (hpl : (backTo pos (starEach es X.env)).any (·.1) = false := by rfl) : PE X (.Call (.Name x p) (e :: es) [] pos) (rdE C W (eVs g fa)) :=
  imE (pe_callB hc hg hm hv ha hn hdb he hpl) fun _ _ _ h => rd_eVs h
theorem pe_ty {x : Str} {p pos : Pos} {e : Expr} {es : List Expr} {T : String} {g : List D → Option D} {fa : M (List AR)} (hc : CallR X (.type T) (rVs C g)) (hg : Gl X x) (hm : X.mg x = none) (hv : bootBuiltins x = some (.type T)) (ha : PA X (e :: es) (rdA C W fa)) (hn : x ≠ "__name__" := by decide) (hdb : (x == ("__debug__" : Str)) = false := by decide)
    (he : starEach (e :: es) X.env = (false, eval e X.env) :: starEach es X.env := by rfl) (hpl : (backTo pos (starEach es X.env)).any (·.1) = false := by rfl) : PE X (.Call (.Name x p) (e :: es) [] pos) (rdE C W (eVs g fa)) :=
  imE (pe_callTy hc hg hm hv ha hn hdb he hpl) fun _ _ _ h => rd_eVs h
def gTup (ds : List D) : Option D := if ds.length ≤ 1000 then some (.tup ds) else none
theorem le1000 {n : Nat} (h : n ≤ 1000) : n ≤ sizeLine := Nat.le_trans h (by decide)
theorem pe_t {es : List Expr} {k : Nat} {pos : Pos} {fa : M (List AR)} (h : PA X es (rdA C W fa)) : PE X (.Tuple es k pos) (rdE C W (eVs gTup fa)) := imE (pe_tup h) fun σ H Q q => by
  have := rd_eVs q
  obtain ⟨B, G, env, hl, P, o⟩ := this
  refine ⟨B, G, env, hl, P, o.mono fun as e1 _ q1 => fun G1 H1 vs l1 P1 hs hn => ?_⟩
  obtain ⟨G2, ds, d, gh, rs, hg, k⟩ := q1 G1 H1 vs l1 P1 hs hn
  unfold gTup at hg
  split at hg
  · rename_i hz
    cases hg
    refine ⟨le1000 (by rw [rs.length]; exact hz), fun p hp => ?_⟩
    exact k (upd G2 p (.tup vs)) (upd H1 p (.tup vs)) (.ref p) [] (Grow.shared gh hp) ⟨⟨p, vs, rfl, .inl (.inl upd_same), RepFs.mono (Same.new (same_none gh hp)) _ _ rs⟩, rfl⟩
  · cases hg
/-- a list of its own; its items, too, may be of one's own -/
def gLst (ds : List D) : Option D := if ds.length ≤ 1000 then some (.olst ds) else none
theorem pe_l {es : List Expr} {pos : Pos} {fa : M (List AR)} (h : PA X es (rdA C W fa)) : PE X (.List es pos) (rdE C W (eVs gLst fa)) := imE (pe_lst h) fun σ H Q q => by
  have := rd_eVs q
  obtain ⟨B, G, env, hl, P, o⟩ := this
  refine ⟨B, G, env, hl, P, o.mono fun as e1 _ q1 => fun G1 H1 vs l1 P1 hs hn => ?_⟩
  obtain ⟨G2, ds, d, gh, rs, hg, k⟩ := q1 G1 H1 vs l1 P1 hs hn
  unfold gLst at hg
  split at hg
  · rename_i hz
    cases hg
    refine ⟨le1000 (by rw [rs.length]; exact hz), fun p hp => ?_⟩
    exact k G2 (upd H1 p (.lst vs)) (.ref p) [p] (Grow.own1 gh hp) ⟨p, vs, [], rfl, upd_same, RepFs.o rs, rfl⟩
  · cases hg
end
end VL
namespace VL
open PySem PySem.Spec PyProof.Rows L2

/-! ### statements -/
inductive Fl where
  | nx | rt (d : D) | bk | ct
def OutS (C : Ct) (W : WX) (ios : List Nat) (B : Bs) (σ : L2.St) (r : R Fl) (D : Ends) : Prop := match r with
  | .no => False
  | .ok fl e => ∀ G' H' σ', σ'.length = σ.length → e.length = σ.length → (∀ j ∈ ios, σ'[j]? = σ[j]?) → (match fl with
    | .nx => B.At C G' H' σ' e → D.nx σ' H'
    | .bk => B.At C G' H' σ' e → D.bk σ' H'
    | .ct => B.At C G' H' σ' e → D.ct σ' H'
    | .rt d => ∀ v, (B.push v d).At C G' H' σ' e → D.rt v H')
  | .ex x e => ∀ G' H' σ' cls dd, σ'.length = σ.length → e.length = σ.length → (∀ j ∈ ios, σ'[j]? = σ[j]?) → B.At C G' H' σ' e → XOk C G' H' x cls dd → W cls dd σ' H'
def rdS (C : Ct) (W : WX) (ios : List Nat) (f : M Fl) : TS := fun D σ H => ∃ (B : Bs) (G : Hp) (env : Env), env.length = σ.length ∧ B.At C G H σ env ∧ OutS C W ios B σ (f env) D
section
variable {C : Ct} {W : WX} {X : Cx} {ios : List Nat}
theorem rdS_any {f : M Fl} {D : Ends} {σ : L2.St} {H : Hp} {B : Bs} {G : Hp} {env : Env} (hl : env.length = σ.length) (P : B.At C G H σ env) (o : OutS C W ios B σ (f env) D) : rdS C W ios f D σ H := ⟨B, G, env, hl, P, o⟩
theorem OutS.of {α : Type} {B : Bs} {σ : L2.St} {r : R α} {k : α → Env → R Fl} {D : Ends} (h : OutS C W ios B σ (r.bind k) D) : Out C W B σ r fun a e => OutS C W ios B σ (k a e) D := by
  cases r with
  | no => exact h
  | ok a e => exact h
  | ex x e =>
    intro G' H' cls dd he P' X'
    exact h G' H' σ cls dd rfl he (fun _ _ => rfl) P' X'
theorem OutS.shift {B : Bs} {σ σ1 : L2.St} {r : R Fl} {D : Ends} (h : OutS C W ios B σ r D) (hl : σ1.length = σ.length) (hi : ∀ j ∈ ios, σ1[j]? = σ[j]?) : OutS C W ios B σ1 r D := by
  cases r with
  | no => exact h
  | ok fl e => exact fun G' H' σ' l1 l2 k => h G' H' σ' (l1.trans hl) (l2.trans hl) fun j hj => (k j hj).trans (hi j hj)
  | ex x e => exact fun G' H' σ' cls dd l1 l2 k => h G' H' σ' cls dd (l1.trans hl) (l2.trans hl) fun j hj => (k j hj).trans (hi j hj)
def sSeq (a b : M Fl) : M Fl := fun env => (a env).bind fun fl e => match fl with
  | .nx => b e
  | fl => .ok fl e
theorem rd_seq {a b : M Fl} {D : Ends} {σ : L2.St} {H : Hp} (h : rdS C W ios (sSeq a b) D σ H) : tSeq (rdS C W ios a) (rdS C W ios b) D σ H := by
  obtain ⟨B, G, env, hl, P, o⟩ := h
  refine ⟨B, G, env, hl, P, ?_⟩
  unfold sSeq at o
  revert o
  generalize a env = r
  intro o
  cases r with
  | no => exact o
  | ex x e => exact o
  | ok fl e =>
    intro G' H' σ' l1 l2 k
    cases fl with
    | nx => exact fun P' => ⟨B, G', e, l2.trans l1.symm, P', OutS.shift o l1 k⟩
    | rt d => exact o G' H' σ' l1 l2 k
    | bk => exact o G' H' σ' l1 l2 k
    | ct => exact o G' H' σ' l1 l2 k
theorem ss_cons {st : Stmt} {rest : List Stmt} {a b : M Fl} (h1 : PS X st (rdS C W ios a)) (h2 : PSs X rest (rdS C W ios b)) : PSs X (st :: rest) (rdS C W ios (sSeq a b)) := imSs (pss_cons h1 h2) fun _ _ _ h => rd_seq h
theorem ss_one {st : Stmt} {a : M Fl} (h1 : PS X st (rdS C W ios a)) : PSs X [st] (rdS C W ios a) := pss_one h1
def sPass : M Fl := fun env => .ok .nx env
def sBrk : M Fl := fun env => .ok .bk env
def sCont : M Fl := fun env => .ok .ct env
theorem rd_pass {D : Ends} {σ : L2.St} {H : Hp} (h : rdS C W ios sPass D σ H) : D.nx σ H := by
  obtain ⟨B, G, env, hl, P, o⟩ := h
  exact o G H σ rfl hl (fun _ _ => rfl) P
theorem ss_nil : PSs X [] (rdS C W ios sPass) := imSs pss_nil fun _ _ _ h => rd_pass h
theorem s_pass {pos : Pos} : PS X (.Pass pos) (rdS C W ios sPass) := imS ps_pass fun _ _ _ h => rd_pass h
theorem s_doc {x j pos pos'} : PS X (.Expr (.Constant (.str x) j pos) pos') (rdS C W ios sPass) := imS ps_doc fun _ _ _ h => rd_pass h
theorem s_brk {pos : Pos} : PS X (.Break pos) (rdS C W ios sBrk) := imS ps_break fun _ _ _ ⟨B, G, env, hl, P, o⟩ => o G _ _ rfl hl (fun _ _ => rfl) P
theorem s_cont {pos : Pos} : PS X (.Continue pos) (rdS C W ios sCont) := imS ps_continue fun _ _ _ ⟨B, G, env, hl, P, o⟩ => o G _ _ rfl hl (fun _ _ => rfl) P
/-- code that is not come to -/
def sNo : M Fl := fun _ => .no
theorem s_no {st : Stmt} : PS X st (rdS C W ios sNo) := imS ps_never fun _ _ _ ⟨B, G, env, hl, P, o⟩ => o
theorem ss_no {st : List Stmt} : PSs X st (rdS C W ios sNo) := imSs pss_never fun _ _ _ ⟨B, G, env, hl, P, o⟩ => o
def sRet (fe : M D) : M Fl := fun env => (fe env).bind fun d e => .ok (.rt d) e
theorem s_ret {e : Expr} {pos : Pos} {fe : M D} (h : PE X e (rdE C W fe)) : PS X (.Return (some e) pos) (rdS C W ios (sRet fe)) := imS (ps_ret h) fun D σ H ⟨B, G, env, hl, P, o⟩ =>
  ⟨B, G, env, hl, P, (OutS.of o).mono fun d e _ q G' H' v l P' => q G' H' σ rfl l (fun _ _ => rfl) v P'⟩
def sDrop (fe : M D) : M Fl := fun env => (fe env).bind fun _ e => .ok .nx e
theorem push_pop {B : Bs} {v : V} {d : D} {G H : Hp} {σ : L2.St} {env : Env} (P : (B.push v d).At C G H σ env) : B.At C G H σ env := by
  have : Post C B.G0 B.H0 B.io G H ((σ ++ B.xs) ++ [some v]) ((env ++ B.ts) ++ [some d]) := by
    unfold Bs.At Bs.push at P
    simpa [List.append_assoc] using P
  exact this.pop
theorem s_drop {e : Expr} {pos : Pos} {fe : M D} (h : PE X e (rdE C W fe)) (hs : swapsWith e none pos.line X.env = pure false := by rfl) : PS X (.Expr e pos) (rdS C W ios (sDrop fe)) := imS (ps_expr h hs) fun D σ H ⟨B, G, env, hl, P, o⟩ =>
  ⟨B, G, env, hl, P, (OutS.of o).mono fun d e _ q G' H' v l P' => q G' H' σ rfl l (fun _ _ => rfl) (push_pop P')⟩
def sIf (ft : M Bool) (a b : M Fl) : M Fl := fun env => (ft env).bind fun c e => if c then a e else b e
theorem s_if {c : Expr} {p q : List Stmt} {pos : Pos} {ft : M Bool} {a b : M Fl} (hc : PT X c (rdT C W ft)) (ha : PSs X p (rdS C W ios a)) (hb : PSs X q (rdS C W ios b)) : PS X (.If c p q pos) (rdS C W ios (sIf ft a b)) :=
  imS (ps_if hc ha hb) fun D σ H ⟨B, G, env, hl, P, o⟩ => ⟨B, G, env, hl, P, (OutS.of o).mono fun d e _ q G' H' l P' => by
    cases d with
    | true => exact iteT ⟨B, G', e, l, P', q⟩
    | false => exact iteF ⟨B, G', e, l, P', q⟩⟩

/-! ### targets -/
abbrev Tg := D → Env → Option Env
/-- js: the names that it may store -/
def rdG (C : Ct) (W : WX) (js : List Nat) (g : Tg) : TG := fun v σ H Q => ∃ (B : Bs) (G : Hp) (env : Env) (d : D), env.length = σ.length ∧ (B.push v d).At C G H σ env ∧ (∃ e, g d env = some e ∧
  ∀ G' σ', e.length = σ.length → σ'.length = σ.length → (∀ j, j ∉ js → σ'[j]? = σ[j]?) → B.At C G' H σ' e → Q σ' H)
def rdGs (C : Ct) (W : WX) (js : List Nat) (g : List D → Env → Option Env) : TGs := fun vs σ H Q => ∃ (B : Bs) (G : Hp) (env : Env) (ds : List D), env.length = σ.length ∧ vs.length = ds.length ∧ Post C B.G0 B.H0 B.io G H (σ ++ (B.xs ++ vs.map some)) (env ++ (B.ts ++ ds.map some)) ∧ (∃ e, g ds env = some e ∧
  ∀ G' σ', e.length = σ.length → σ'.length = σ.length → (∀ j, j ∉ js → σ'[j]? = σ[j]?) → B.At C G' H σ' e → Q σ' H)
def gNm (i : Nat) : Tg := fun d e => some (e.set i (some d))
theorem imG {X : Cx} {e : Expr} {t t' : TG} (h : PG X e t) (i : ∀ v σ H Q, t' v σ H Q → t v σ H Q) : PG X e t' := ⟨fun pins s σ H v u Q I r q => h.run pins s σ H v u Q I r (i _ _ _ _ q)⟩
theorem imGs {X : Cx} {e : List Expr} {t t' : TGs} (h : PGs X e t) (i : ∀ v σ H Q, t' v σ H Q → t v σ H Q) : PGs X e t' := ⟨fun pins s σ H v u Q I r q => h.run pins s σ H v u Q I r (i _ _ _ _ q)⟩
theorem at_set {B : Bs} {v : V} {d : D} {G H : Hp} {σ : L2.St} {env : Env} {i : Nat} (hl : env.length = σ.length) (hi : i < env.length) (P : (B.push v d).At C G H σ env) : B.At C G H (σ.set i (some v)) (env.set i (some d)) := by
  have q : Post C B.G0 B.H0 B.io G H ((σ ++ B.xs) ++ [some v]) ((env ++ B.ts) ++ [some d]) := by
    unfold Bs.At Bs.push at P
    simpa [List.append_assoc] using P
  have := q.setLast (i := i)
  rwa [List.set_append_left _ _ (by omega), List.set_append_left _ _ hi] at this
theorem at_set' {B : Bs} {v : V} {d : D} {G H : Hp} {σ : L2.St} {env : Env} {i : Nat} (hl : env.length = σ.length) (P : (B.push v d).At C G H σ env) : B.At C G H (σ.set i (some v)) (env.set i (some d)) := by
  by_cases hi : i < env.length
  · exact at_set hl hi P
  · rw [List.set_eq_of_length_le (by omega), List.set_eq_of_length_le (by omega)]
    exact push_pop P
theorem g_nm {x : Str} {pos : Pos} (i : Nat) (h : PG X (.Name x pos) (gName i)) : PG X (.Name x pos) (rdG C W [i] (gNm i)) := imG h fun v σ H Q ⟨B, G, env, d, hl, P, e, he, q⟩ => by
  cases he
  refine q G (σ.set i (some v)) (by simpa using hl) (by simp) (fun j hj => ?_) (at_set' hl P)
  rw [List.getElem?_set_ne (fun z => hj (by simp [z]))]
def gsNil : List D → Env → Option Env := fun ds e => match ds with
  | [] => some e
  | _ => none
def gsCons (g : Tg) (gs : List D → Env → Option Env) : List D → Env → Option Env := fun ds e => match ds with
  | d :: r => (g d e).bind fun e2 => gs r e2
  | [] => none
theorem gs_0 : PGs X [] (rdGs C W [] gsNil) := imGs pgs_nil fun vs σ H Q ⟨B, G, env, ds, hl, hv, P, e, he, q⟩ => by
  cases ds with
  | cons d r => cases he
  | nil =>
    cases he
    have hv : vs = [] := by simpa using hv
    subst hv
    exact ⟨rfl, q G σ hl rfl (fun _ _ => rfl) (by simpa [Bs.At] using P)⟩
theorem Post.rot {G0 H0 G H : Hp} {io : List Addr} {A M : List (Option V)} {As Ms : List (Option D)} {v : Option V} {d : Option D} (P : Post C G0 H0 io G H (A ++ v :: M) (As ++ d :: Ms)) (hl : A.length = As.length) : Post C G0 H0 io G H (A ++ (M ++ [v])) (As ++ (Ms ++ [d])) := by
  have hm : M.length = Ms.length := by have := P.len; simp at this; omega
  refine P.sub (fun i => if i < As.length then some i else if i < As.length + Ms.length then some (i + 1) else if i = As.length + Ms.length then some As.length else none) (by simp; omega) (fun i e hd => ?_) fun a b j h1 h2 => ?_
  · have hi := (List.getElem?_eq_some_iff.mp hd).1
    simp only [List.length_append, List.length_singleton] at hi
    by_cases h : i < As.length
    · refine ⟨i, if_pos h, ?_, ?_⟩
      · rw [List.getElem?_append_left h] at hd ⊢; exact hd
      · rw [List.getElem?_append_left (by omega), List.getElem?_append_left (by omega)]
    · by_cases h2 : i < As.length + Ms.length
      · refine ⟨i + 1, by rw [if_neg h, if_pos h2], ?_, ?_⟩
        · rw [List.getElem?_append_right (by omega), List.getElem?_append_left (by omega)] at hd
          rw [List.getElem?_append_right (by omega), show i + 1 - As.length = (i - As.length) + 1 by omega, List.getElem?_cons_succ]; exact hd
        · rw [List.getElem?_append_right (by omega), List.getElem?_append_left (by omega), List.getElem?_append_right (by omega), show i + 1 - A.length = (i - A.length) + 1 by omega, List.getElem?_cons_succ]
      · have h3 : i = As.length + Ms.length := by omega
        subst h3
        refine ⟨As.length, by rw [if_neg (by omega), if_neg (by omega), if_pos rfl], ?_, ?_⟩
        · rw [List.getElem?_append_right (by omega), List.getElem?_append_right (by omega)] at hd
          have e0 : As.length + Ms.length - As.length - Ms.length = 0 := by omega
          rw [e0] at hd
          simp at hd
          simp [hd]
        · rw [List.getElem?_append_right (by omega), List.getElem?_append_right (by omega)]
          have e0 : As.length + Ms.length - A.length - M.length = 0 := by omega
          rw [e0, ← hl]; simp
  · split at h1 <;> split at h2 <;> (try split at h1) <;> (try split at h2) <;> (try split at h1) <;> (try split at h2) <;> first | cases h1; done | cases h2; done | (have z1 := Option.some.inj h1; have z2 := Option.some.inj h2; omega)
theorem gs_1 {t : Expr} {ts : List Expr} {js ks : List Nat} {g : Tg} {gs : List D → Env → Option Env} (h1 : PG X t (rdG C W js g)) (h2 : PGs X ts (rdGs C W ks gs))
    (hs : (assignEach (t :: ts) X.env).map (·.2) = assign t X.env :: (assignEach ts X.env).map (·.2) := by rfl) : PGs X (t :: ts) (rdGs C W (js ++ ks) (gsCons g gs)) :=
  imGs (pgs_cons h1 h2 hs) fun vs σ H Q ⟨B, G, env, ds, hl, hv, P, e, he, q⟩ => by
    cases ds with
    | nil => cases he
    | cons d dr =>
      obtain ⟨v, vr, rfl⟩ : ∃ v vr, vs = v :: vr := by
        cases vs with
        | nil => simp at hv
        | cons v vr => exact ⟨v, vr, rfl⟩
      have hx := P.len
      simp at hx hv
      cases hg : g d env with
      | none =>
        have : (none : Option Env).bind (fun e2 => gs dr e2) = some e := by rw [← hg]; exact he
        cases this
      | some e2 =>
        have he : gs dr e2 = some e := by
          have : (some e2 : Option Env).bind (fun e2 => gs dr e2) = some e := by rw [← hg]; exact he
          exact this
        refine ⟨v, vr, rfl, { B with xs := B.xs ++ vr.map some, ts := B.ts ++ dr.map some }, G, env, d, hl, ?_, e2, hg, fun G' σ' l1 l2 k P' => ?_⟩
        · have : Post C B.G0 B.H0 B.io G H ((σ ++ B.xs) ++ some v :: vr.map some) ((env ++ B.ts) ++ some d :: dr.map some) := by simpa [List.append_assoc] using P
          have := this.rot (by simp; omega)
          unfold Bs.At Bs.push
          simpa [List.append_assoc] using this
        · refine ⟨B, G', e2, dr, by omega, hv, by simpa [Bs.At] using P', e, he, fun G2 σ2 l3 l4 k2 P2 => q G2 σ2 (by omega) (by omega) (fun j hj => ?_) P2⟩
          rw [k2 j (fun z => hj (List.mem_append_right _ z)), k j (fun z => hj (List.mem_append_left _ z))]
theorem Post.pushs {G0 H0 G H : Hp} {io : List Addr} : ∀ (ds : List D) (vs : List V) (A : List (Option V)) (As : List (Option D)), Post C G0 H0 io G H A As → RepFs C G ds vs → Post C G0 H0 io G H (A ++ vs.map some) (As ++ ds.map some)
  | [], vs, A, As, P, r => by
    rw [show vs = [] from r]
    simpa using P
  | d :: ds, vs, A, As, P, r => by
    obtain ⟨x, r', e, h1, h2⟩ := r
    subst e
    have := Post.pushs ds r' (A ++ [some x]) (As ++ [some d]) (P.push h1) h2
    simpa [List.append_assoc] using this
/-- (a, b, ..) = a shared tuple -/
def gTp (gs : List D → Env → Option Env) : Tg := fun d e => match frz d with
  | .tup ds => gs ds e
  | _ => none
theorem RepO.tup {G H : Hp} {ds : List D} {v : V} {fp : List Addr} (h : RepO C G H (.tup ds) v fp) : RepF C G (.tup ds) v := h.1
theorem at_last {B : Bs} {v : V} {d : D} {G H : Hp} {σ : L2.St} {env : Env} (hl : env.length = σ.length) (P : (B.push v d).At C G H σ env) : ∃ fp, RepO C G H d v fp := by
  have hx : (σ ++ (B.push v d).xs).length = (env ++ (B.push v d).ts).length := Post.len P
  unfold Bs.push at hx
  simp at hx
  obtain ⟨fpf, O, _⟩ := id (show Post _ _ _ _ _ _ _ _ from P).own
  obtain ⟨w, q1, q2⟩ := O.rep (env.length + B.ts.length) d (by simp [Bs.push])
  have : (σ ++ (B.push v d).xs)[env.length + B.ts.length]? = some (some v) := by
    have e0 : env.length + B.ts.length = σ.length + B.xs.length := by omega
    rw [e0]; simp [Bs.push]
  rw [this] at q1
  cases q1
  exact ⟨_, q2⟩
theorem g_tp {es : List Expr} {k : Nat} {pos : Pos} {js : List Nat} {gs : List D → Env → Option Env} (n : Nat) (hc : X.calm = true) (h : PGs X es (rdGs C W js gs)) (hK : X.K = C.K)
    (hgs : ∀ ds e u, gs ds e = some u → ds.length = n) (hn : (assignEach es X.env).length = n := by rfl) (hst : (assignEach es X.env).findIdx? (·.1) = none := by rfl) : PG X (.Tuple es k pos) (rdG C W js (gTp gs)) :=
  imG (pg_tup hc h hn hst) fun v σ H Q ⟨B, G, env, d, hl, P, e, he, q⟩ => by
    unfold gTp at he
    split at he
    · rename_i ds hd
      have hd' : d = .tup ds := by
        cases d <;> simp [frz] at hd
        rw [hd]
      subst hd'
      obtain ⟨fp, ro⟩ := at_last hl P
      obtain ⟨a, xs, rfl, hs, rs⟩ := RepO.tup ro
      have P0 := push_pop P
      have hgh := (show Post _ _ _ _ _ _ _ _ from P0).gh
      refine ⟨a, xs, rfl, by rw [hK]; exact seqT hgh hs, by rw [rs.length]; exact hgs _ _ _ he, B, G, env, ds, hl, rs.length, ?_, e, he, q⟩
      have := Post.pushs ds xs _ _ P0 rs
      simpa [List.append_assoc] using this
    · cases he
def ofT (o : Option Env) : R Fl := match o with
  | some e => .ok .nx e
  | none => .no
@[simp] theorem ofT_some (e : Env) : ofT (some e) = .ok .nx e := rfl
@[simp] theorem ofT_none : ofT none = .no := rfl
def sAsg (fe : M D) (g : Tg) : M Fl := fun env => (fe env).bind fun d e => ofT (g d e)
theorem rd_asg {fe : M D} {js : List Nat} {g : Tg} (hj : ∀ j ∈ ios, j ∉ js) {D : Ends} {σ : L2.St} {H : Hp} (h : rdS C W ios (sAsg fe g) D σ H) : tAsg (rdE C W fe) (rdG C W js g) D σ H := by
  obtain ⟨B, G, env, hl, P, o⟩ := h
  refine ⟨B, G, env, hl, P, (OutS.of o).mono fun d e _ q G' H' v l P' => ?_⟩
  cases hg : g d e with
  | none => rw [hg] at q; exact q.elim
  | some e2 =>
    rw [hg] at q
    exact ⟨B, G', e, d, l, P', e2, hg, fun G2 σ2 l2 l3 k P2 => q G2 H' σ2 l3 (by omega) (fun j hj' => k j (hj j hj')) P2⟩
theorem s_asg {tg e : Expr} {pos : Pos} {fe : M D} {js : List Nat} {g : Tg} (he : PE X e (rdE C W fe)) (hg : PG X tg (rdG C W js g)) (hj : ∀ j ∈ ios, j ∉ js := by decide) (hs : swapsWithSole [tg] e pos.line X.env = pure false := by rfl) (hw : swappedStores [tg] e X.env = pure none := by rfl)
    (h1 : (assignEach [tg] X.env).map (·.2) = [assign tg X.env] := by rfl) : PS X (.Assign [tg] e pos) (rdS C W ios (sAsg fe g)) := imS (ps_asg he hg hs hw h1) fun _ _ _ h => rd_asg hj h
/-- name = e -/
theorem s_set {x : Str} {e : Expr} {pos pos' : Pos} {fe : M D} (i : Nat) (hN : X.N.Nodup) (hi : X.N[i]? = some x) (hx : Loc X.env.scope x) (he : PE X e (rdE C W fe)) (hj : ∀ j ∈ ios, j ∉ [i] := by decide) (hs : swapsWith e (some (.Name x pos')) pos.line X.env = pure false := by rfl) (hf : X.fn x = true ∨ X.env.scope.names.lookup x = some .local := by first | exact .inl rfl | exact .inr rfl | assumption) :
    PS X (.Assign [.Name x pos'] e pos) (rdS C W ios (sAsg fe (gNm i))) := imS (ps_set hN hi hx he hs hf) fun D σ H h => by
  obtain ⟨B, G, env, hl, P, o⟩ := h
  refine ⟨B, G, env, hl, P, (OutS.of o).mono fun d e _ q G' H' v l P' => ?_⟩
  exact q G' H' (σ.set i (some v)) (by simp) (by simpa using l) (fun j hj' => by rw [List.getElem?_set_ne (fun z => hj j hj' (by simp [z]))]) (at_set' l P')

/-! ### what is walked -/
/-- the iterator J gives the items, one by one, as long as dI stands -/
def ItOk (C : Ct) (J : It) (dI : D) (v : V) (items : List D) : Prop := ∀ G H, RepF C G dI v → Same G H → ∀ i, (∀ d, items[i]? = some d → J.go i H ∧ ∀ x H', J.yld i H x H' → ∃ G', Grow G H G' H' [] ∧ RepF C G' d x) ∧ (items.length ≤ i → J.stop i H)
def rdI (C : Ct) (W : WX) (f : M (List D)) : TI := fun σ H R => ∃ (B : Bs) (G : Hp) (env : Env), env.length = σ.length ∧ B.At C G H σ env ∧
  Out C W B σ (f env) fun items env' => ∀ G' H' v dI J, env'.length = σ.length → (B.push v dI).At C G' H' σ env' → frz dI = dI → ItOk C J dI v items → R J H'
theorem imI {X : Cx} {tg e : Expr} {t t' : TI} (h : PI X tg e t) (i : ∀ σ H Q, t' σ H Q → t σ H Q) : PI X tg e t' := ⟨fun pins s σ H R I q => h.run pins s σ H R I (i _ _ _ q)⟩
mutual
theorem frz_frz : ∀ d : D, frz (frz d) = frz d
  | .olst xs => rfl
  | .odic ks xs => rfl
  | .oins c ns xs => rfl
  | .non => rfl
  | .bl b => rfl
  | .int i => rfl
  | .str x => rfl
  | .lst xs => rfl
  | .tup xs => rfl
  | .dic ks xs => rfl
  | .ins c ns xs => rfl
  | .scr ns => rfl
end
theorem RepO.f {G H : Hp} {d : D} {v : V} {fp : List Addr} (h : RepO C G H d v fp) (e : VL.frz d = d) : RepF C G d v := by
  cases d with
  | olst xs => cases e
  | odic ks xs => cases e
  | oins c ns xs => cases e
  | _ => exact h.1
/-- an iterable that is a list or a tuple -/
def items : D → Option (List D)
  | .lst ds => some ds
  | .tup ds => some ds
  | _ => none
def iSeq (fe : M D) : M (List D) := fun env => (fe env).bind fun d e => ofO (items (frz d)) e
theorem RepFs.get {G : Hp} : ∀ {ds : List D} {xs : List V} {i : Nat} {d : D}, RepFs C G ds xs → ds[i]? = some d → ∃ x, xs[i]? = some x ∧ RepF C G d x
  | [], _, _, _, _, h => by simp at h
  | d :: ds, _, 0, d', h, e => by
    obtain ⟨x, r, h1, h2, h3⟩ := h
    subst h1
    simp at e
    subst e
    exact ⟨x, by simp, h2⟩
  | d :: ds, _, i + 1, d', h, e => by
    obtain ⟨x, r, h1, h2, h3⟩ := h
    subst h1
    obtain ⟨y, q1, q2⟩ := RepFs.get h3 (i := i) (by simpa using e)
    exact ⟨y, by simpa using q1, q2⟩
theorem it_list {a : Addr} {ds : List D} : ItOk C (Itl C.K a) (.lst ds) (.ref a) ds := fun G H r gh i => by
  obtain ⟨a', xs, e, h, rs⟩ := r
  cases e
  have hs : SqL C.K H a xs := .of (gh _ _ h)
  refine ⟨fun d hd => ?_, fun hi => ⟨xs, hs, by rw [rs.length]; exact hi⟩⟩
  obtain ⟨x, hx, rx⟩ := rs.get hd
  refine ⟨⟨xs, x, hs, hx⟩, fun y H' hy => ?_⟩
  obtain ⟨rfl, k⟩ := hy
  have := k xs hs
  rw [hx] at this
  cases this
  exact ⟨G, Grow.refl gh, rx⟩
theorem it_tup {a : Addr} {ds : List D} : ItOk C (Itt C.K a) (.tup ds) (.ref a) ds := fun G H r gh i => by
  obtain ⟨a', xs, e, h, rs⟩ := r
  cases e
  have hs : SqT C.K H a xs := seqT gh h
  refine ⟨fun d hd => ?_, fun hi => ⟨xs, hs, by rw [rs.length]; exact hi⟩⟩
  obtain ⟨x, hx, rx⟩ := rs.get hd
  refine ⟨⟨xs, x, hs, hx⟩, fun y H' hy => ?_⟩
  obtain ⟨rfl, k⟩ := hy
  have := k xs hs
  rw [hx] at this
  cases this
  exact ⟨G, Grow.refl gh, rx⟩
theorem rd_frz {fe : M D} {σ : L2.St} {H : Hp} {Q : VK} {B : Bs} {G : Hp} {v : V} {d : D} {env : Env} (hl : env.length = σ.length) (P : (B.push v d).At C G H σ env) : ∃ G', Same G G' ∧ (B.push v (frz d)).At C G' H σ env ∧ RepF C G' (frz d) v := by
  have hx : (σ ++ (B.push v d).xs).length = (env ++ (B.push v d).ts).length := Post.len P
  unfold Bs.push at hx
  simp at hx
  have q : Post C B.G0 B.H0 B.io G H ((σ ++ B.xs) ++ [v].map some) ((env ++ B.ts) ++ [d].map some) := by
    unfold Bs.At Bs.push at P
    simpa [List.append_assoc] using P
  obtain ⟨G', s, P', x, r, e, rf, _⟩ := Post.fzTail _ _ _ _ (by simp; omega) q
  cases e
  exact ⟨G', s, by unfold Bs.At Bs.push; simpa [List.append_assoc, frzs] using P', rf⟩
theorem pi_seq {tg e : Expr} {fe : M D} (hK : X.K = C.K) (h : PE X e (rdE C W fe)) : PI X tg e (rdI C W (iSeq fe)) := by
  refine ⟨fun pins s σ H R I q => ?_⟩
  obtain ⟨B, G, env, hl, P, o⟩ := q
  have o := o.bind
  cases hf : fe env with
  | no => rw [hf] at o; exact o.elim
  | ex x e' =>
    refine (pi_list (tl := rdE C W fe) h).run pins s σ H R I ?_
    exact ⟨B, G, env, hl, P, by rw [hf] at o ⊢; exact o⟩
  | ok d e' =>
    cases hd : items (frz d) with
    | none => rw [hf] at o; simp only [Out, hd, ofO] at o
    | some ds =>
      have o2 : ∀ G' H' v dI J, e'.length = σ.length → (B.push v dI).At C G' H' σ e' → frz dI = dI → ItOk C J dI v ds → R J H' := by
        rw [hf] at o
        simpa only [Out, hd, ofO] using o
      cases d with
      | lst es =>
        cases hd
        refine (pi_list (tl := rdE C W fe) h).run pins s σ H R I ⟨B, G, env, hl, P, ?_⟩
        rw [hf]
        intro G' H' v l P'
        obtain ⟨fp, ro⟩ := at_last l P'
        obtain ⟨a, xs, rfl, hh, rs⟩ := ro.1
        have gh := (show Post _ _ _ _ _ _ _ _ from P').gh
        exact ⟨a, rfl, ⟨xs, .of (gh _ _ hh)⟩, o2 G' H' _ _ _ l P' rfl (hK ▸ it_list)⟩
      | olst es =>
        cases hd
        refine (pi_list (tl := rdE C W fe) h).run pins s σ H R I ⟨B, G, env, hl, P, ?_⟩
        rw [hf]
        intro G' H' v l P'
        obtain ⟨G2, s2, P2, rf⟩ := rd_frz (fe := fe) (Q := fun _ _ => True) l P'
        obtain ⟨a, xs, rfl, hh, rs⟩ := id rf
        have gh := (show Post _ _ _ _ _ _ _ _ from P2).gh
        exact ⟨a, rfl, ⟨xs, .of (gh _ _ hh)⟩, o2 G2 H' _ _ _ l P2 rfl (hK ▸ it_list)⟩
      | tup es =>
        cases hd
        refine (pi_tup (tl := rdE C W fe) h).run pins s σ H R I ⟨B, G, env, hl, P, ?_⟩
        rw [hf]
        intro G' H' v l P'
        obtain ⟨fp, ro⟩ := at_last l P'
        obtain ⟨a, xs, rfl, hh, rs⟩ := ro.1
        have gh := (show Post _ _ _ _ _ _ _ _ from P').gh
        exact ⟨a, rfl, ⟨xs, by rw [hK]; exact seqT gh hh⟩, o2 G' H' _ _ _ l P' rfl (hK ▸ it_tup)⟩
      | _ => cases hd
end
end VL
namespace VL
open PySem PySem.Spec PyProof.Rows L2
section
variable {C : Ct} {W : WX} {X : Cx} {ios : List Nat}

/-! ### ranges, texts -/
theorem rdA_vals {fa : M (List AR)} {σ : L2.St} {H : Hp} {Q : List V → Hp → Prop} {B : Bs} {G : Hp} {env : Env} (hl : env.length = σ.length) (P : B.At C G H σ env)
    (o : Out C W B σ (fa env) fun as e => ∃ ds, vals as = some ds ∧ ∀ G' H' vs, e.length = σ.length → Post C B.G0 B.H0 B.io G' H' ((σ ++ B.xs) ++ vs.map some) ((e ++ B.ts) ++ (frzs ds).map some) → RepFs C G' (frzs ds) vs → Q vs H') : rdA C W fa σ H Q := by
  have hx := at_len P hl
  refine ⟨B, G, env, hl, P, o.mono fun as e _ ⟨ds, hv, k⟩ G1 H1 vs l1 P1 _ hn => ?_⟩
  have P2' : Post C B.G0 B.H0 B.io G1 H1 ((σ ++ B.xs) ++ vs.map some) ((e ++ B.ts) ++ ds.map some) := by
    unfold Bs.At Bs.pushs at P1
    rw [vals_map hv] at P1
    simpa [List.append_assoc] using P1
  obtain ⟨G3, s3, P3, r3⟩ := Post.fzTail _ _ _ _ (by simp; omega) P2'
  exact k G3 H1 vs l1 P3 r3
def rangeD (lo hi : Int) : List D := (List.range (hi - lo).toNat).map fun (k : Nat) => .int (lo + k)
def in62 (j : Int) : Bool := decide (-(2 ^ 62) ≤ j) && decide (j < 2 ^ 62)
theorem in62_of {j : Int} (h : in62 j = true) : -(2 ^ 62) ≤ j ∧ j < 2 ^ 62 := by
  unfold in62 at h
  simpa using h
def rng1 : List D → Option (List D)
  | [.int j] => if in62 j then some (rangeD 0 j) else none
  | _ => none
theorem rng1_inv {ds l : List D} (h : rng1 ds = some l) : ∃ j, ds = [.int j] ∧ in62 j = true ∧ l = rangeD 0 j := by
  unfold rng1 at h
  split at h
  · split at h
    · exact ⟨_, rfl, ‹_›, (Option.some.inj h).symm⟩
    · cases h
  · cases h
def rng2 : List D → Option (List D)
  | [.int i, .int j] => if in62 i && in62 j then some (rangeD i j) else none
  | _ => none
theorem rng2_inv {ds l : List D} (h : rng2 ds = some l) : ∃ i j, ds = [.int i, .int j] ∧ in62 i = true ∧ in62 j = true ∧ l = rangeD i j := by
  unfold rng2 at h
  split at h
  · split at h
    · rename_i q
      rw [Bool.and_eq_true] at q
      exact ⟨_, _, rfl, q.1, q.2, (Option.some.inj h).symm⟩
    · cases h
  · cases h
def iArgs (r : List D → Option (List D)) (fa : M (List AR)) : M (List D) := fun env => (fa env).bind fun as e => ofO ((vals as).bind fun ds => r (frzs ds)) e
/-- an iterable made of arguments -/
theorem rd_iArgs {r : List D → Option (List D)} {fa : M (List AR)} {σ : L2.St} {H : Hp} {R : It → Hp → Prop} {Q : List V → Hp → Prop} (h : rdI C W (iArgs r fa) σ H R)
    (k : ∀ (B : Bs) (e : Env) (ds l : List D) (G' H' : Hp) (vs : List V), r (frzs ds) = some l → e.length = σ.length → B.At C G' H' σ e → Same G' H' → RepFs C G' (frzs ds) vs → Post C B.G0 B.H0 B.io G' H' ((σ ++ B.xs) ++ vs.map some) ((e ++ B.ts) ++ (frzs ds).map some) → B.xs.length = B.ts.length →
      (∀ G' H' v dI J, (B.push v dI).At C G' H' σ e → frz dI = dI → ItOk C J dI v l → R J H') → Q vs H') : rdA C W fa σ H Q := by
  obtain ⟨B, G, env, hl, P, o⟩ := h
  refine rdA_vals hl P (o.bind.mono fun as e _ q => ?_)
  have hx := at_len P hl
  cases hv : vals as with
  | none => rw [hv] at q; exact q.elim
  | some ds =>
    rw [hv] at q
    have q : Out C W B σ (ofO (r (frzs ds)) e) _ := q
    refine ⟨ds, rfl, fun G' H' vs l P' rs => ?_⟩
    cases hr : r (frzs ds) with
    | none => rw [hr] at q; exact q.elim
    | some items =>
      rw [hr] at q
      exact k B e ds items G' H' vs hr l (P'.dropTail (by simp; omega)) P'.gh rs P' hx fun G2 H2 v dI J P2 hf hit => q G2 H2 v dI J l P2 hf hit
theorem it_rng {lo hi' : Int} : ItOk C (Itr lo (hi' - lo).toNat) .non .non (rangeD lo hi') := fun G H r gh i => by
  unfold rangeD
  refine ⟨fun d hd => ?_, fun hi => by (show (hi' - lo).toNat ≤ i); simpa using hi⟩
  rw [List.getElem?_map] at hd
  have hi : i < (hi' - lo).toNat := by
    cases e : (List.range (hi' - lo).toNat)[i]? with
    | none => rw [e] at hd; cases hd
    | some k => have := (List.getElem?_eq_some_iff.mp e).1; simpa using this
  rw [List.getElem?_range hi] at hd
  cases hd
  refine ⟨hi, fun x H' hy => ?_⟩
  obtain ⟨rfl, rfl⟩ := hy
  exact ⟨G, Grow.refl gh, rfl⟩
theorem at_non {B : Bs} {G H : Hp} {σ : L2.St} {env : Env} (P : B.At C G H σ env) : (B.push .non .non).At C G H σ env := by
  have := Post.push P (d := .non) (v := .non) rfl
  unfold Bs.At Bs.push
  simpa [List.append_assoc] using this
theorem at_tail {B : Bs} {G H : Hp} {σ : L2.St} {env : Env} {vs : List (Option V)} {ds : List (Option D)} (hx : B.xs.length = B.ts.length) (hl : env.length = σ.length) (P : Post C B.G0 B.H0 B.io G H ((σ ++ B.xs) ++ vs) ((env ++ B.ts) ++ ds)) : B.At C G H σ env :=
  P.dropTail (by simp; omega)
theorem pi_r1 {tg a : Expr} {p pos : Pos} {fa : M (List AR)} (hg : Gl X "range") (hm : X.mg "range" = none) (ha : PA X [a] (rdA C W fa)) (hs : starEach [a] X.env = [(false, eval a X.env)] := by rfl) : PI X tg (.Call (.Name "range" p) [a] [] pos) (rdI C W (iArgs rng1 fa)) :=
  imI (pi_range1 hg hm ha hs) fun σ H R h => rd_iArgs h fun B e ds l G' H' vs hr hl P0 gh rs _ _ q => by
    obtain ⟨j, e1, h62, rfl⟩ := rng1_inv hr
    rw [e1] at rs
    obtain ⟨x, r, rfl, rx, h2⟩ := rs
    cases (show r = [] from h2)
    cases (show x = .int j from rx)
    obtain ⟨b1, b2⟩ := in62_of h62
    refine ⟨j, rfl, b1, b2, ?_⟩
    have := q G' H' .non .non (Itr 0 (j - 0).toNat) (at_non P0) rfl it_rng
    simpa using this
theorem pi_r2 {tg a b : Expr} {p pos : Pos} {fa : M (List AR)} (hg : Gl X "range") (hm : X.mg "range" = none) (ha : PA X [a, b] (rdA C W fa)) (hs : starEach [a, b] X.env = [(false, eval a X.env), (false, eval b X.env)] := by rfl) (hs2 : starEach [b] X.env = [(false, eval b X.env)] := by rfl) : PI X tg (.Call (.Name "range" p) [a, b] [] pos) (rdI C W (iArgs rng2 fa)) :=
  imI (pi_range2 hg hm ha hs hs2) fun σ H R h => rd_iArgs h fun B e ds l G' H' vs hr hl P0 gh rs _ _ q => by
    obtain ⟨i, j, e1, h1, h2, rfl⟩ := rng2_inv hr
    rw [e1] at rs
    obtain ⟨x, r, rfl, rx, y, r2, hr, ry, hr2⟩ := rs
    cases hr
    cases (show r2 = [] from hr2)
    cases (show x = .int i from rx)
    cases (show y = .int j from ry)
    obtain ⟨b1, b2⟩ := in62_of h1
    obtain ⟨b3, b4⟩ := in62_of h2
    exact ⟨i, j, rfl, ⟨b1, b2, b3, b4⟩, q G' H' .non .non _ (at_non P0) rfl it_rng⟩
/-- a text, sign by sign -/
def signs : D → Option (List D)
  | .str x => some (x.cps.toList.map fun c => .str ⟨#[c]⟩)
  | _ => none
def iStrM (fe : M D) : M (List D) := fun env => (fe env).bind fun d e => ofO (signs d) e
theorem it_str {x : Str} : ItOk C (Its x) (.str x) (.str x) (x.cps.toList.map fun c => .str ⟨#[c]⟩) := fun G H r gh i => by
  refine ⟨fun d hd => ?_, fun hi => by (show x.cps.size ≤ i); simpa using hi⟩
  rw [List.getElem?_map] at hd
  cases e : x.cps.toList[i]? with
  | none => rw [e] at hd; cases hd
  | some c =>
    rw [e] at hd
    cases hd
    have e' : x.cps[i]? = some c := by simpa using e
    refine ⟨(Array.getElem?_eq_some_iff.mp e').1, fun y H' hy => ?_⟩
    obtain ⟨rfl, c', h1, rfl⟩ := hy
    rw [e'] at h1
    cases h1
    exact ⟨G, Grow.refl gh, rfl⟩
theorem pi_tx {tg e : Expr} {fe : M D} (h : PE X e (rdE C W fe)) : PI X tg e (rdI C W (iStrM fe)) := imI (pi_str h) fun σ H R ⟨B, G, env, hl, P, o⟩ => ⟨B, G, env, hl, P, o.bind.mono fun d e _ q G' H' v l P' => by
  cases d with
  | str x =>
    obtain ⟨fp, ro⟩ := at_last l P'
    cases (show v = .str x from ro.1)
    exact ⟨x, rfl, q G' H' _ _ _ l P' rfl it_str⟩
  | _ => exact q.elim⟩

/-! ### loops -/
def forL (g : Tg) (b : M Fl) : List D → M Fl
  | [], env => .ok .nx env
  | d :: r, env => match g d env with
    | none => .no
    | some e => (b e).bind fun fl e2 => match fl with
      | .nx => forL g b r e2
      | .ct => forL g b r e2
      | .bk => .ok .nx e2
      | .rt x => .ok (.rt x) e2
def sFor (fi : M (List D)) (g : Tg) (b : M Fl) : M Fl := fun env => (fi env).bind fun l e => forL g b l e
theorem push2_mid {B : Bs} {v w : V} {d e : D} {G H : Hp} {σ : L2.St} {env : Env} (hl : env.length = σ.length) (P : ((B.push v d).push w e).At C G H σ env) : (B.push w e).At C G H σ env := by
  have hx : (σ ++ ((B.push v d).push w e).xs).length = (env ++ ((B.push v d).push w e).ts).length := Post.len P
  unfold Bs.push at hx
  simp at hx
  have : Post C B.G0 B.H0 B.io G H ((σ ++ B.xs) ++ [some v] ++ [some w]) ((env ++ B.ts) ++ [some d] ++ [some e]) := by
    unfold Bs.At Bs.push at P
    simpa [List.append_assoc] using P
  have := this.dropMid (by simp; omega)
  unfold Bs.At Bs.push
  simpa [List.append_assoc] using this
theorem OutS.body {B : Bs} {v : V} {d : D} {σ : L2.St} {r : R Fl} {k : Fl → Env → R Fl} {D D' : Ends} (h : OutS C W ios B σ (r.bind k) D)
    (i : ∀ fl e, r = .ok fl e → OutS C W ios B σ (k fl e) D → OutS C W ios (B.push v d) σ (.ok fl e) D') : OutS C W ios (B.push v d) σ r D' := by
  cases r with
  | no => exact h
  | ok fl e => exact i fl e rfl h
  | ex x e => exact fun G' H' σ' cls dd l1 l2 k P' => h G' H' σ' cls dd l1 l2 k (push_pop P')
theorem s_for {tg iter : Expr} {body : List Stmt} {pos : Pos} {fi : M (List D)} {js : List Nat} {g : Tg} {b : M Fl} (hp : PassesOwn (model X.prog X.w) X.A X.env X.xe) (hc : X.calm = true) (hi : PI X tg iter (rdI C W fi)) (hg : PG X tg (rdG C W js g)) (hb : PSs X body (rdS C W ios b))
    (hj : ∀ j ∈ ios, j ∉ js := by decide) (hs : ∀ x, foldedSetIterable iter X.env x = pure x := by intro _; rfl) : PS X (.For tg iter body [] pos) (rdS C W ios (sFor fi g b)) :=
  imS (ps_for hp hc hi hg hb hs) fun D σ H ⟨B, G, env, hl, P, o⟩ => ⟨B, G, env, hl, P, (OutS.of o).mono fun items e0 _ q G1 H1 v dI J l0 P1 hf hit => by
    refine ⟨fun i m σ1 H2 => m = items.length - i ∧ i ≤ items.length ∧ ∃ G2 env1, env1.length = σ1.length ∧ σ1.length = σ.length ∧ (∀ j ∈ ios, σ1[j]? = σ[j]?) ∧ (B.push v dI).At C G2 H2 σ1 env1 ∧ OutS C W ios B σ1 (forL g b (items.drop i) env1) D,
      ⟨items.length, by simp, Nat.zero_le _, G1, e0, l0, rfl, fun _ _ => rfl, P1, by simpa using q⟩, ?_⟩
    rintro i m σ1 H2 ⟨rfl, hi, G2, env1, l1, l2, k1, P2, o2⟩
    obtain ⟨fp, ro⟩ := at_last l1 P2
    have rf := ro.f hf
    have gh := (show Post _ _ _ _ _ _ _ _ from P2).gh
    obtain ⟨it1, it2⟩ := hit G2 H2 rf gh i
    by_cases hlt : i < items.length
    · obtain ⟨hgo, hy⟩ := it1 items[i] (List.getElem?_eq_getElem hlt)
      refine .inr ⟨hgo, fun σ2 H3 => ∃ m', m' < items.length - i ∧ m' = items.length - (i + 1) ∧ i + 1 ≤ items.length ∧ ∃ G2 env1, env1.length = σ2.length ∧ σ2.length = σ.length ∧ (∀ j ∈ ios, σ2[j]? = σ[j]?) ∧ (B.push v dI).At C G2 H3 σ2 env1 ∧ OutS C W ios B σ2 (forL g b (items.drop (i + 1)) env1) D, fun σ' H' ⟨m', h1, h2⟩ => ⟨m', h1, h2⟩, fun x H3 hyx => ?_⟩
      obtain ⟨G3, gr, rx⟩ := hy x H3 hyx
      have P3 : ((B.push v dI).push x items[i]).At C G3 H3 σ1 env1 := by
        have := Post.grow P2 gr rx.o
        unfold Bs.At Bs.push at this ⊢
        simpa [List.append_assoc] using this
      rw [List.drop_eq_getElem_cons hlt] at o2
      cases hgd : g items[i] env1 with
      | none =>
        have : OutS C W ios B σ1 (R.no) D := by
          have := o2
          unfold forL at this
          rw [hgd] at this
          exact this
        exact this.elim
      | some e2 =>
        have o3 : OutS C W ios B σ1 ((b e2).bind fun fl e2 => match fl with
          | .nx => forL g b (items.drop (i + 1)) e2
          | .ct => forL g b (items.drop (i + 1)) e2
          | .bk => .ok .nx e2
          | .rt x => .ok (.rt x) e2) D := by
          have := o2
          unfold forL at this
          rw [hgd] at this
          exact this
        refine ⟨B.push v dI, G3, env1, items[i], l1, P3, e2, hgd, fun G4 σ2 l3 l4 k4 P4 => ⟨B.push v dI, G4, e2, by omega, P4, ?_⟩⟩
        have ki : ∀ j ∈ ios, σ2[j]? = σ1[j]? := fun j hj' => k4 j (hj j hj')
        refine OutS.body (OutS.shift o3 (by omega) ki) fun fl e3 _ o4 G5 H5 σ3 l5 l6 k5 => ?_
        have again : OutS C W ios B σ2 (forL g b (items.drop (i + 1)) e3) D → (B.push v dI).At C G5 H5 σ3 e3 → ∃ m', m' < items.length - i ∧ m' = items.length - (i + 1) ∧ i + 1 ≤ items.length ∧ ∃ G2 env1, env1.length = σ3.length ∧ σ3.length = σ.length ∧ (∀ j ∈ ios, σ3[j]? = σ[j]?) ∧ (B.push v dI).At C G2 H5 σ3 env1 ∧ OutS C W ios B σ3 (forL g b (items.drop (i + 1)) env1) D :=
          fun o5 P5 => ⟨_, by omega, rfl, hlt, G5, e3, by omega, by omega, fun j hj' => by rw [k5 j hj', ki j hj', k1 j hj'], P5, OutS.shift o5 l5 k5⟩
        cases fl with
        | nx => exact again o4
        | ct => exact again o4
        | bk => exact fun P5 => o4 G5 H5 σ3 l5 l6 k5 (push_pop P5)
        | rt y => exact fun w P5 => o4 G5 H5 σ3 l5 l6 k5 w (push2_mid (by omega) P5)
    · have e : i = items.length := by omega
      refine .inl ⟨it2 (by omega), ?_⟩
      rw [e, List.drop_length] at o2
      exact o2 G2 H2 σ1 rfl l1 (fun _ _ => rfl) (push_pop P2)⟩

/-! ### while -/
def whF (ft : M Bool) (b : M Fl) : Nat → M Fl
  | 0, _ => .no
  | n + 1, env => (ft env).bind fun c e => if c then (b e).bind fun fl e2 => match fl with
      | .nx => whF ft b n e2
      | .ct => whF ft b n e2
      | .bk => .ok .nx e2
      | .rt x => .ok (.rt x) e2
    else .ok .nx e
theorem whF_mono {ft : M Bool} {b : M Fl} : ∀ (n m : Nat) (env : Env), n ≤ m → whF ft b n env ≠ .no → whF ft b m env = whF ft b n env
  | 0, _, env, _, h => absurd rfl h
  | n + 1, 0, _, h, _ => absurd h (by omega)
  | n + 1, m + 1, env, hm, h => by
    unfold whF at h ⊢
    cases e : ft env with
    | no => rfl
    | ex x e' => rfl
    | ok c e1 =>
      rw [e] at h
      cases c with
      | false => rfl
      | true =>
        simp only [R.bind_ok, if_true] at h ⊢
        cases eb : b e1 with
        | no => rfl
        | ex x e' => rfl
        | ok fl e2 =>
          rw [eb] at h
          cases fl with
          | nx => exact whF_mono n m e2 (by omega) h
          | ct => exact whF_mono n m e2 (by omega) h
          | bk => rfl
          | rt x => rfl
open Classical in
noncomputable def sWhile (ft : M Bool) (b : M Fl) : M Fl := fun env => if h : ∃ n, whF ft b n env ≠ .no then whF ft b (Classical.choose h) env else .no
theorem sWhile_eq {ft : M Bool} {b : M Fl} {env : Env} (n : Nat) (h : whF ft b n env ≠ .no) : sWhile ft b env = whF ft b n env := by
  have hx : ∃ n, whF ft b n env ≠ .no := ⟨n, h⟩
  unfold sWhile
  rw [dif_pos hx]
  have h2 := Classical.choose_spec hx
  rcases Nat.le_total n (Classical.choose hx) with q | q
  · exact whF_mono _ _ _ q h
  · exact (whF_mono _ _ _ q h2).symm
theorem s_while {c : Expr} {body : List Stmt} {pos : Pos} {ft : M Bool} {b : M Fl} (hp : PassesOwn (model X.prog X.w) X.A X.env X.xe) (hc : PT X c (rdT C W ft)) (hb : PSs X body (rdS C W ios b)) : PS X (.While c body [] pos) (rdS C W ios (sWhile ft b)) :=
  imS (ps_while hp hc hb) fun D σ H ⟨B, G, env, hl, P, o⟩ => by
    obtain ⟨n, hn⟩ : ∃ n, whF ft b n env ≠ .no := by
      by_cases h : ∃ n, whF ft b n env ≠ .no
      · exact h
      · unfold sWhile at o
        rw [dif_neg h] at o
        exact o.elim
    rw [sWhile_eq n hn] at o
    refine ⟨fun m σ1 H1 => σ1.length = σ.length ∧ (∀ j ∈ ios, σ1[j]? = σ[j]?) ∧ ∃ G1 env1, env1.length = σ1.length ∧ B.At C G1 H1 σ1 env1 ∧ OutS C W ios B σ1 (whF ft b m env1) D, ⟨n, rfl, fun _ _ => rfl, G, env, hl, P, o⟩, ?_⟩
    rintro m σ1 H1 ⟨l1, k1, G1, env1, l2, P1, o1⟩
    cases m with
    | zero => exact o1.elim
    | succ m =>
      unfold whF at o1
      refine ⟨B, G1, env1, l2, P1, (OutS.of o1).mono fun c e _ q G2 H2 l3 P2 => ?_⟩
      cases c with
      | false => exact iteF (q G2 H2 σ1 rfl l3 (fun _ _ => rfl) P2)
      | true =>
        refine iteT ⟨fun σ2 H3 => σ2.length = σ.length ∧ (∀ j ∈ ios, σ2[j]? = σ[j]?) ∧ ∃ G1 env1, env1.length = σ2.length ∧ B.At C G1 H3 σ2 env1 ∧ OutS C W ios B σ2 (whF ft b m env1) D, fun σ' H' h => ⟨m, Nat.lt_succ_self m, h⟩, B, G2, e, l3, P2, ?_⟩
        have q : OutS C W ios B σ1 ((b e).bind fun fl e2 => match fl with
          | .nx => whF ft b m e2
          | .ct => whF ft b m e2
          | .bk => .ok .nx e2
          | .rt x => .ok (.rt x) e2) D := q
        revert q
        generalize b e = r
        intro q
        cases r with
        | no => exact q
        | ex x e' => exact q
        | ok fl e2 =>
          intro G3 H3 σ3 l4 l5 k3
          cases fl with
          | nx => exact fun P3 => ⟨by omega, fun j hj => by rw [k3 j hj, k1 j hj], G3, e2, by omega, P3, OutS.shift q l4 k3⟩
          | ct => exact fun P3 => ⟨by omega, fun j hj => by rw [k3 j hj, k1 j hj], G3, e2, by omega, P3, OutS.shift q l4 k3⟩
          | bk => exact fun P3 => q G3 H3 σ3 l4 l5 k3 P3
          | rt y => exact fun w P3 => q G3 H3 σ3 l4 l5 k3 w P3
end
end VL
namespace VL
open PySem PySem.Spec PyProof.Rows L2
section
variable {C : Ct} {W : WX} {X : Cx} {ios : List Nat}

/-! ### comprehensions -/
abbrev W0 : WX := fun _ _ _ _ => False
def noEx {α : Type} (r : R α) : R α := match r with
  | .no => .no
  | .ok a e => .ok a e
  | .ex _ _ => .no
@[simp] theorem noEx_ok {α : Type} (a : α) (e : Env) : noEx (.ok a e) = .ok a e := rfl
def wipeE (env : Env) : List Nat → Env
  | [] => env
  | v :: vs => (wipeE env vs).set v none
theorem wipeE_length (env : Env) : ∀ vs : List Nat, (wipeE env vs).length = env.length
  | [] => rfl
  | v :: vs => by unfold wipeE; rw [List.length_set, wipeE_length env vs]
theorem wipeE_some {env : Env} {i : Nat} {x : D} : ∀ {vs : List Nat}, (wipeE env vs)[i]? = some (some x) → env[i]? = some (some x) ∧ i ∉ vs
  | [], h => ⟨h, by simp⟩
  | v :: vs, h => by
    unfold wipeE at h
    by_cases hi : v = i
    · subst hi
      by_cases hv : v < (wipeE env vs).length
      · rw [List.getElem?_set_self hv] at h; cases h
      · rw [List.getElem?_eq_none (by simpa using hv)] at h; cases h
    · rw [List.getElem?_set_ne hi] at h
      obtain ⟨h1, h2⟩ := wipeE_some h
      exact ⟨h1, by simp only [List.mem_cons, not_or]; exact ⟨fun e => hi e.symm, h2⟩⟩
theorem wipe_get {σ : L2.St} {i : Nat} : ∀ {vs : List Nat}, i ∉ vs → (wipe σ vs)[i]? = σ[i]?
  | [], _ => rfl
  | v :: vs, h => by
    unfold wipe
    rw [List.getElem?_set_ne (fun e => h (by simp [e])), wipe_get fun z => h (List.mem_cons_of_mem _ z)]
theorem wipe_in {σ : L2.St} {i : Nat} : ∀ {vs : List Nat}, i ∈ vs → i < σ.length → (wipe σ vs)[i]? = some none
  | [], h, _ => by simp at h
  | v :: vs, h, hl => by
    unfold wipe
    by_cases e : v = i
    · subst e; rw [List.getElem?_set_self (by rw [wipe_length]; exact hl)]
    · rw [List.getElem?_set_ne e]
      exact wipe_in ((List.mem_cons.mp h).resolve_left (Ne.symm e)) hl
theorem wipe_eq {σ σ' : L2.St} {vs : List Nat} (hl : σ'.length = σ.length) (h : ∀ i, i ∉ vs → σ'[i]? = σ[i]?) : wipe σ' vs = wipe σ vs := by
  refine List.ext_getElem? fun i => ?_
  by_cases hi : i ∈ vs
  · by_cases hb : i < σ.length
    · rw [wipe_in hi hb, wipe_in hi (by omega)]
    · rw [List.getElem?_eq_none (by rw [wipe_length]; omega), List.getElem?_eq_none (by rw [wipe_length]; omega)]
  · rw [wipe_get hi, wipe_get hi, h i hi]
theorem at_wipe {B : Bs} {G H : Hp} {σ σ' : L2.St} {env : Env} {vs : List Nat} (hl : env.length = σ.length) (P : B.At C G H σ env) (hs : σ'.length = σ.length) (h : ∀ i, i ∉ vs → σ'[i]? = σ[i]?) : B.At C G H σ' (wipeE env vs) := by
  have hL := Post.len P
  simp at hL
  refine Post.sub some P (by simp [wipeE_length]; omega) (fun i d hd => ⟨i, rfl, ?_, ?_⟩) fun a b j h1 h2 => by cases h1; cases h2; rfl
  · by_cases hi : i < env.length
    · rw [List.getElem?_append_left (by rw [wipeE_length]; exact hi)] at hd
      rw [List.getElem?_append_left hi]
      exact (wipeE_some hd).1
    · rw [List.getElem?_append_right (by rw [wipeE_length]; omega), wipeE_length] at hd
      rw [List.getElem?_append_right (by omega)]
      exact hd
  · by_cases hi : i < env.length
    · rw [List.getElem?_append_left (by rw [wipeE_length]; exact hi)] at hd
      rw [List.getElem?_append_left (by omega), List.getElem?_append_left (by omega)]
      exact h i (wipeE_some hd).2
    · rw [List.getElem?_append_right (by omega), List.getElem?_append_right (by omega), hs]
def lcL (g : Tg) (ft : M Bool) (fe : M D) (vs : List Nat) : List D → List D → Env → R D
  | [], acc, env => .ok (.olst acc) (wipeE env vs)
  | d :: r, acc, env => match g d (wipeE env vs) with
    | none => .no
    | some e => (noEx (ft e)).bind fun b e2 => if b then (noEx (fe e2)).bind fun y e3 => if acc.length < 100000 then lcL g ft fe vs r (acc ++ [y]) e3 else .no else lcL g ft fe vs r acc e2
def eLc (fi : M (List D)) (g : Tg) (ft : M Bool) (fe : M D) (vs : List Nat) : M D := fun env => (fi env).bind fun l e => lcL g ft fe vs l [] e
def tYesM : M Bool := fun env => .ok true env
theorem pts_0 : PTs X [] (rdT C W tYesM) := ⟨fun pins s σ H Q I q => pts_nil.run pins s σ H Q I (rdT_ok (b := true) q)⟩
theorem pts_1 {c : Expr} {ft : M Bool} (h : PT X c (rdT C W ft)) : PTs X [c] (rdT C W ft) := pts_one h
theorem noEx_out {α : Type} {B : Bs} {σ : L2.St} {r : R α} {β : Type} {f : α → Env → R β} {k : β → Env → Prop} (h : Out C W B σ ((noEx r).bind f) k) (hn : ∀ (x : Exc) (e : Env), (noEx r).bind f ≠ .ex x e ∨ True) : ∃ a e, r = .ok a e ∧ Out C W B σ (f a e) k := by
  cases r with
  | no => exact h.elim
  | ok a e => exact ⟨a, e, rfl, h⟩
  | ex x e => exact h.elim
theorem Post.appT {G0 H0 G H : Hp} {io : List Addr} {A : List (Option V)} {As : List (Option D)} {p : Addr} {es : List D} {y : V} {d : D} (P : Post C G0 H0 io G H (A ++ [some (.ref p)] ++ [some y]) (As ++ [some (.olst es)] ++ [some d])) (hl : A.length = As.length) :
    ∃ xs, H p = some (.lst xs) ∧ xs.length = es.length ∧ Post C G0 H0 io G (upd H p (.lst (xs ++ [y]))) (A ++ [some (.ref p)]) (As ++ [some (.olst (es ++ [d]))]) := by
  obtain ⟨fpf, O, hin⟩ := id P.own
  have h1 := O.rep As.length (.olst es) (by simp)
  obtain ⟨v1, q1, a, xs, f, rfl, hp, rs, ef⟩ := h1
  have e1 : a = p := by
    rw [← hl] at q1
    simpa using q1.symm
  subst e1
  obtain ⟨v2, q2, r2⟩ := O.rep (As.length + 1) d (by simp)
  have e2 : v2 = y := by
    rw [← hl] at q2
    simpa using q2.symm
  subst e2
  have hpf : a ∈ fpf As.length := by rw [ef]; exact List.mem_cons_self
  refine ⟨xs, hp, rs.length, ?_⟩
  have nd1 : (a :: f).Nodup := ef ▸ O.nd As.length
  have dis : ∀ q, q ∈ fpf As.length → q ∈ fpf (As.length + 1) → False := fun q x1 x2 => by have := O.dj _ _ q x1 x2; omega
  have keepH : ∀ b, b ≠ a → upd H a (.lst (xs ++ [v2])) b = H b := fun b hb => upd_ne hb
  have snoc : ∀ (ds : List D) (vs : List V) (f1 f2 : List Addr) (d : D) (y : V) (H' : Hp), RepOs C G H' ds vs f1 → RepO C G H' d y f2 → RepOs C G H' (ds ++ [d]) (vs ++ [y]) (f1 ++ f2) := by
    intro ds
    induction ds with
    | nil =>
      intro vs f1 f2 d y H' h1 h2
      obtain ⟨rfl, rfl⟩ := h1
      exact ⟨y, [], f2, [], rfl, by simp, h2, rfl, rfl⟩
    | cons d0 ds ih =>
      intro vs f1 f2 d y H' h1 h2
      obtain ⟨x, r, g1, g2, rfl, rfl, k1, k2⟩ := h1
      exact ⟨x, r ++ [y], g1, g2 ++ f2, by simp, by simp, k1, ih r g2 f2 d y H' k2 h2⟩
  refine P.re (fpf := fpf) (fpf' := fun i => if i = As.length then fpf As.length ++ fpf (As.length + 1) else if i < As.length then fpf i else []) hin (Same.refl _) ?_ (fun b o hb k => ?_) (fun b hb => ne_upd hb) (fun b _ _ h => h) ⟨by simp [hl], fun i e he => ?_, fun i => ?_, fun i j q hi hj => ?_, fun i q hi => ?_, fun i q hi => ?_⟩ fun i q hi => ?_
  · intro b o hb
    have : b ≠ a := fun z => by
      have := O.gn _ _ hpf
      rw [← z, hb] at this
      cases this
    rw [upd_ne this]; exact P.gh b o hb
  · have : b ≠ a := fun z => k As.length (z ▸ hpf)
    rw [upd_ne this]; exact hb
  · have hi := (List.getElem?_eq_some_iff.mp he).1
    simp at hi
    by_cases h : i < As.length
    · rw [List.getElem?_append_left h] at he
      obtain ⟨v, k1, k2⟩ := O.rep i e (by rw [List.append_assoc, List.getElem?_append_left h]; exact he)
      rw [List.append_assoc, List.getElem?_append_left (by omega)] at k1
      refine ⟨v, by rw [List.getElem?_append_left (by omega)]; exact k1, ?_⟩
      have hne : i ≠ As.length := by omega
      simp only [hne, if_false, h, if_true]
      refine RepO.mono (Same.refl _) _ _ _ (fun b hb => keepH b fun z => ?_) k2
      have := O.dj i As.length a (z ▸ hb) hpf
      omega
    · have h0 : i = As.length := by omega
      subst h0
      rw [List.getElem?_append_right (Nat.le_refl _), Nat.sub_self] at he
      simp at he
      subst he
      refine ⟨.ref a, by rw [← hl]; simp, ?_⟩
      simp only [if_true]
      refine ⟨a, xs ++ [v2], f ++ fpf (As.length + 1), rfl, upd_same, ?_, by rw [ef]; rfl⟩
      refine snoc _ _ _ _ _ _ _ (RepOs.mono (Same.refl _) _ _ _ (fun b hb => keepH b fun z => ?_) rs) (RepO.mono (Same.refl _) _ _ _ (fun b hb => keepH b fun z => ?_) r2)
      · exact (List.nodup_cons.mp nd1).1 (z ▸ hb)
      · exact dis a hpf (z ▸ hb)
  · (try dsimp only)
    split
    · refine List.nodup_append.mpr ⟨O.nd _, O.nd _, fun b h1 c h2 e => dis b h1 (e ▸ h2)⟩
    · split
      · exact O.nd i
      · exact .nil
  · (try dsimp only at hi hj)
    split at hi <;> split at hj <;> (try split at hi) <;> (try split at hj) <;> (try cases hi; done) <;> (try cases hj; done)
    · omega
    · rcases List.mem_append.mp hi with z | z
      · have := O.dj _ _ q z hj; omega
      · have := O.dj _ _ q z hj; omega
    · rcases List.mem_append.mp hj with z | z
      · have := O.dj _ _ q hi z; omega
      · have := O.dj _ _ q hi z; omega
    · exact O.dj _ _ q hi hj
  · (try dsimp only at hi)
    split at hi
    · rcases List.mem_append.mp hi with z | z
      · exact O.gn _ _ z
      · exact O.gn _ _ z
    · split at hi
      · exact O.gn _ _ hi
      · cases hi
  · (try dsimp only at hi)
    refine ne_upd ?_
    split at hi
    · rcases List.mem_append.mp hi with z | z
      · exact O.hp _ _ z
      · exact O.hp _ _ z
    · split at hi
      · exact O.hp _ _ hi
      · cases hi
  · (try dsimp only at hi)
    split at hi
    · rcases List.mem_append.mp hi with z | z
      · exact .inl ⟨_, z⟩
      · exact .inl ⟨_, z⟩
    · split at hi
      · exact .inl ⟨_, hi⟩
      · cases hi
theorem at_new {B : Bs} {G H : Hp} {σ : L2.St} {env : Env} {p : Addr} (P : B.At C G H σ env) (hp : H p = none) : (B.push (.ref p) (.olst [])).At C G (upd H p (.lst [])) σ env := by
  have gh := Post.gh P
  have := Post.grow P (Grow.own1 (o := .lst []) gh hp) (d := .olst []) (v := .ref p) ⟨p, [], [], rfl, upd_same, ⟨rfl, rfl⟩, rfl⟩
  unfold Bs.At Bs.push
  simpa [List.append_assoc] using this
theorem rd_lc {fi : M (List D)} {g : Tg} {ft : M Bool} {fe : M D} {js vs : List Nat} {σ : L2.St} {H : Hp} {Q : VK} (hj : ∀ j ∈ js, j ∈ vs) (h : rdE C W (eLc fi g ft fe vs) σ H Q) : tLc (rdI C W fi) (rdG C W0 js g) (rdT C W0 ft) (rdE C W0 fe) vs σ H Q := by
  obtain ⟨B, G, env, hl, P, o⟩ := h
  refine ⟨B, G, env, hl, P, o.bind.mono fun items e0 _ q G1 H1 v dI J l0 P1 hf hit Dl hD => ?_⟩
  let KK : D → Env → Prop := fun d env' => ∀ G' H' v, env'.length = σ.length → (B.push v d).At C G' H' σ env' → Q v H'
  let K : L2.St → Env → List D → List D → Prop := fun σ1 env1 r acc => Out C W B σ (lcL g ft fe vs r acc env1) KK
  let Inv1 : Nat → Hp → Prop := fun i H2 => i ≤ items.length ∧ ∃ G2 env1 acc σ1, env1.length = σ1.length ∧ σ1.length = σ.length ∧ (∀ j, j ∉ vs → σ1[j]? = σ[j]?) ∧ ((B.push v dI).push (.ref Dl) (.olst acc)).At C G2 H2 σ1 env1 ∧ K σ1 env1 (items.drop i) acc
  refine ⟨fun i m H2 => m = items.length - i ∧ Inv1 i H2, ⟨items.length, by simp, Nat.zero_le _, G1, e0, [], σ, l0, rfl, fun _ _ => rfl, at_new P1 hD, by simpa [K] using q⟩, ?_⟩
  rintro i m H2 ⟨rfl, hi, G2, env1, acc, σ1, l1, l2, k1, P2, o2⟩
  obtain ⟨fp, ro⟩ := at_last l1 (push_pop P2)
  have rf := ro.f hf
  have gh := (show Post _ _ _ _ _ _ _ _ from P2).gh
  obtain ⟨it1, it2⟩ := hit G2 H2 rf gh i
  by_cases hlt : i < items.length
  · obtain ⟨hgo, hy⟩ := it1 items[i] (List.getElem?_eq_getElem hlt)
    refine .inr ⟨hgo, Inv1 (i + 1), fun H' h => ⟨_, by omega, rfl, h⟩, fun x H3 hyx => ?_⟩
    obtain ⟨G3, gr, rx⟩ := hy x H3 hyx
    have P2w := at_wipe (σ' := wipe σ vs) (vs := vs) l1 P2 (by rw [wipe_length]; omega) fun j hj' => by rw [wipe_get hj', k1 j hj']
    have P3 : (((B.push v dI).push (.ref Dl) (.olst acc)).push x items[i]).At C G3 H3 (wipe σ vs) (wipeE env1 vs) := by
      have := Post.grow P2w gr rx.o
      unfold Bs.At Bs.push at this ⊢
      simpa [List.append_assoc] using this
    have o2 : Out C W B σ (lcL g ft fe vs (items[i] :: items.drop (i + 1)) acc env1) KK := by rw [← List.drop_eq_getElem_cons hlt]; exact o2
    unfold lcL at o2
    cases hgd : g items[i] (wipeE env1 vs) with
    | none => rw [hgd] at o2; exact o2.elim
    | some e2 =>
      rw [hgd] at o2
      obtain ⟨b, e3, hft, o3⟩ := noEx_out (show Out C W B σ ((noEx (ft e2)).bind _) KK from o2) fun _ _ => .inr trivial
      refine ⟨(B.push v dI).push (.ref Dl) (.olst acc), G3, wipeE env1 vs, items[i], by rw [wipeE_length, wipe_length]; omega, P3, e2, hgd, fun G4 σ2 l3 l4 k4 P4 => ?_⟩
      have hw : wipe σ2 vs = wipe σ vs := by
        have : wipe σ2 vs = wipe (wipe σ vs) vs := wipe_eq l4 fun j hj' => k4 j fun z => hj' (hj j z)
        rw [this]
        exact wipe_eq (by rw [wipe_length]) fun j hj' => wipe_get hj'
      have l4' : σ2.length = σ.length := by rw [l4, wipe_length]
      have k4' : ∀ j, j ∉ vs → σ2[j]? = σ[j]? := fun j hj' => by rw [k4 j fun z => hj' (hj j z), wipe_get hj']
      refine ⟨hw, (B.push v dI).push (.ref Dl) (.olst acc), G4, e2, by rw [wipe_length] at l3; omega, P4, ?_⟩
      rw [hft]
      intro G5 H5 l5 P5
      cases b with
      | false => exact iteF ⟨hlt, G5, e3, acc, σ2, l5, l4', k4', P5, o3⟩
      | true =>
        refine iteT ?_
        obtain ⟨y, e4, hfe, o4⟩ := noEx_out (show Out C W B σ ((noEx (fe e3)).bind _) KK from o3) fun _ _ => .inr trivial
        refine ⟨(B.push v dI).push (.ref Dl) (.olst acc), G5, e3, l5, P5, ?_⟩
        rw [hfe]
        intro G6 H6 w l6 P6
        have hlen : acc.length < 100000 := by
          by_cases z : acc.length < 100000
          · exact z
          · rw [if_neg z] at o4; exact o4.elim
        rw [if_pos hlen] at o4
        have hx := at_len P hl
        have P6' : Post C B.G0 B.H0 B.io G6 H6 ((σ2 ++ B.xs ++ [some v]) ++ [some (.ref Dl)] ++ [some w]) ((e4 ++ B.ts ++ [some dI]) ++ [some (.olst acc)] ++ [some y]) := by
          unfold Bs.At Bs.push at P6
          simpa [List.append_assoc] using P6
        obtain ⟨xs, hxs, hxl, P7⟩ := P6'.appT (by simp; omega)
        refine ⟨xs, hxs, Nat.lt_of_lt_of_le (by omega : xs.length < 100000) (by decide), hlt, G6, e4, acc ++ [y], σ2, l6, l4', k4', ?_, o4⟩
        unfold Bs.At Bs.push
        simpa [List.append_assoc] using P7
  · have e : i = items.length := by omega
    refine .inl ⟨it2 (by omega), ?_⟩
    have o2 : Out C W B σ (lcL g ft fe vs (items.drop i) acc env1) KK := o2
    rw [e, List.drop_length] at o2
    have Pw := at_wipe (σ' := σ) (vs := vs) l1 P2 (by omega) fun j hj' => (k1 j hj').symm
    exact o2 G2 H2 (.ref Dl) (by rw [wipeE_length]; omega) (push2_mid (by rw [wipeE_length]; omega) Pw)
theorem pe_lcM {elt tg iter : Expr} {ifs : List Expr} {scope : Scope} {own : List (Str × Nat)} {pos : Pos} {fi : M (List D)} {g : Tg} {ft : M Bool} {fe : M D} {js : List Nat} (hc : X.calm = true) (hN : X.N.Nodup) (hi : PI X tg iter (rdI C W fi)) (ok : BlkOk X.N X.env.scope scope own)
    (hg : ∀ (s : Shared) (H : Hp) (A : Addr) (cl : List (Str × Addr)) (fp : List Addr), PG (X.blk s H scope (compEnvC scope cl A X.env) fp) tg (rdG C W0 js g)) (ht : ∀ (s : Shared) (H : Hp) (A : Addr) (cl : List (Str × Addr)) (fp : List Addr), PTs (X.blk s H scope (compEnvC scope cl A X.env) fp) ifs (rdT C W0 ft))
    (he : ∀ (s : Shared) (H : Hp) (A : Addr) (cl : List (Str × Addr)) (fp : List Addr), PE (X.blk s H scope (compEnvC scope cl A X.env) fp) elt (rdE C W0 fe)) (hj : ∀ j ∈ js, j ∈ own.map (·.2) := by decide) (hs : ∀ x, foldedSetIterable iter X.env x = pure x := by intro _; rfl) :
    PE X (.ListComp elt [⟨tg, iter, ifs, 0⟩] scope pos) (rdE C W (eLc fi g ft fe (own.map (·.2)))) := imE (pe_lc hc hN hi ok hg ht he hs) fun _ _ _ h => rd_lc hj h
theorem s_setLc {y : Str} {py : Pos} {elt tg iter : Expr} {ifs : List Expr} {scope : Scope} {own : List (Str × Nat)} {pos spos : Pos} {fi : M (List D)} {g : Tg} {ft : M Bool} {fe : M D} {js : List Nat} (i : Nat) (hc : X.calm = true) (hN : X.N.Nodup) (hy : X.N[i]? = some y) (hyl : X.env.scope.names.lookup y = some .local)
    (hsw : swapsWith (.ListComp elt [⟨tg, iter, ifs, 0⟩] scope pos) (some (.Name y py)) spos.line X.env = pure true) (hi : PI X tg iter (rdI C W fi)) (ok : BlkOk X.N X.env.scope scope own)
    (hg : ∀ (s : Shared) (H : Hp) (A : Addr) (cl : List (Str × Addr)) (fp : List Addr), PG (X.blk s H scope (compEnvC scope cl A X.env) fp) tg (rdG C W0 js g)) (ht : ∀ (s : Shared) (H : Hp) (A : Addr) (cl : List (Str × Addr)) (fp : List Addr), PTs (X.blk s H scope (compEnvC scope cl A X.env) fp) ifs (rdT C W0 ft))
    (he : ∀ (s : Shared) (H : Hp) (A : Addr) (cl : List (Str × Addr)) (fp : List Addr), PE (X.blk s H scope (compEnvC scope cl A X.env) fp) elt (rdE C W0 fe)) (hio : ∀ j ∈ ios, j ∉ [i] := by decide) (hj : ∀ j ∈ js, j ∈ own.map (·.2) := by decide) (hs : ∀ x, foldedSetIterable iter X.env x = pure x := by intro _; rfl) :
    PS X (.Assign [.Name y py] (.ListComp elt [⟨tg, iter, ifs, 0⟩] scope pos) spos) (rdS C W ios (sAsg (eLc fi g ft fe (own.map (·.2))) (gNm i))) := imS (ps_setLc hc hN hy hyl hsw hi ok hg ht he hs) fun D σ H h => by
  obtain ⟨B, G, env, hl, P, o⟩ := h
  refine rd_lc hj ⟨B, G, env, hl, P, (OutS.of o).mono fun d e _ q G' H' v l P' => ?_⟩
  exact q G' H' (σ.set i (some v)) (by simp) (by simpa using l) (fun j hj' => by rw [List.getElem?_set_ne (fun z => hio j hj' (by simp [z]))]) (at_set' l P')
end
end VL
namespace VL
open PySem PySem.Spec PyProof.Rows L2
section
variable {C : Ct} {W : WX} {X : Cx} {ios : List Nat}

/-! ### a def: what it gives for what it is given; behind it, what became of the arguments that it may change -/
inductive Res where
  | ret (d : D) | exc (x : Exc)
abbrev Fn := List D → Option (Res × List D)
def spV (C : Ct) (ios : List Nat) (F : Fn) : Sp := fun vs H Q E => ∃ G io ds, Post C G H io G H (vs.map some) (ds.map some) ∧ (match F ds with
  | none => False
  | some (.ret d, os) => ∀ G' H' v, Post C G H io G' H' (ios.map (fun j => vs[j]?) ++ [some v]) (os.map some ++ [some d]) → Q v H'
  | some (.exc x, os) => ∀ G' H' cls dd, Post C G H io G' H' (ios.map (fun j => vs[j]?)) (os.map some) → XOk C G' H' x cls dd → E cls dd H')
def outs : List Nat → Env → Option (List D)
  | [], _ => some []
  | j :: r, e => match e[j]? with
    | some (some d) => (outs r e).map (d :: ·)
    | _ => none
theorem outs_get : ∀ {ios : List Nat} {e : Env} {os : List D}, outs ios e = some os → os.length = ios.length ∧ ∀ (k j : Nat), ios[k]? = some j → ∃ d, os[k]? = some d ∧ e[j]? = some (some d)
  | [], e, os, h => by
    cases h
    exact ⟨rfl, fun k j hj => by simp at hj⟩
  | j :: r, e, os, h => by
    unfold outs at h
    split at h
    · rename_i d hd
      cases q : outs r e with
      | none => rw [q] at h; cases h
      | some os' =>
        rw [q] at h
        cases h
        obtain ⟨h1, h2⟩ := outs_get q
        refine ⟨by simp [h1], fun k j' hj => ?_⟩
        cases k with
        | zero => simp at hj; subst hj; exact ⟨d, by simp, hd⟩
        | succ k => exact h2 k j' (by simpa using hj)
    · cases h
def resF (ios : List Nat) : R Fl → Option (Res × List D)
  | .ok (.rt d) e => (outs ios e).map fun os => (.ret d, os)
  | .ok .nx e => (outs ios e).map fun os => (.ret .non, os)
  | _ => none
/-- np parameters, n names in all -/
def runF (n np : Nat) (ios : List Nat) (b : M Fl) : Fn := fun ds => if ds.length = np then resF ios (b (ds.map some ++ List.replicate (n - np) none)) else none
theorem Post.addNone {G0 H0 G H : Hp} {io : List Addr} {A : List (Option V)} {As : List (Option D)} (P : Post C G0 H0 io G H A As) (n : Nat) : Post C G0 H0 io G H (A ++ List.replicate n none) (As ++ List.replicate n none) := by
  have hl := P.len
  refine P.sub (fun i => if i < As.length then some i else none) (by simp [hl]) (fun i d hd => ?_) fun a b j h1 h2 => ?_
  · by_cases hi : i < As.length
    · rw [List.getElem?_append_left hi] at hd
      exact ⟨i, if_pos hi, hd, List.getElem?_append_left (by omega)⟩
    · rw [List.getElem?_append_right (by omega), List.getElem?_replicate] at hd
      split at hd <;> cases hd
  · split at h1 <;> split at h2 <;> (try cases h1) <;> (try cases h2) <;> rfl
/-- of all that is held, some things and the last -/
theorem Post.pick {G0 H0 G H : Hp} {io : List Addr} {A : List (Option V)} {As : List (Option D)} {os : List D} {vs : List V} {v : V} {d : D} (P : Post C G0 H0 io G H (A ++ [some v]) (As ++ [some d])) (hn : ios.Nodup)
    (ho : os.length = ios.length) (hg : ∀ (k j : Nat), ios[k]? = some j → ∃ e, os[k]? = some e ∧ As[j]? = some (some e)) (hv : ∀ j ∈ ios, A[j]? = some (vs[j]?)) : Post C G0 H0 io G H (ios.map (fun j => vs[j]?) ++ [some v]) (os.map some ++ [some d]) := by
  have hl : A.length = As.length := by have := P.len; simpa using this
  refine P.sub (fun i => if i < ios.length then ios[i]? else if i = ios.length then some As.length else none) (by simp [ho]) (fun i e he => ?_) fun a b j h1 h2 => ?_
  · have hi := (List.getElem?_eq_some_iff.mp he).1
    simp [ho] at hi
    by_cases h : i < ios.length
    · obtain ⟨e', q1, q2⟩ := hg i ios[i] (List.getElem?_eq_getElem h)
      have hj := (List.getElem?_eq_some_iff.mp q2).1
      rw [List.getElem?_append_left (by simp [ho]; exact h), List.getElem?_map, q1] at he
      cases he
      refine ⟨ios[i], by rw [if_pos h, List.getElem?_eq_getElem h], by rw [List.getElem?_append_left hj]; exact q2, ?_⟩
      rw [List.getElem?_append_left (by simpa using h), List.getElem?_map, List.getElem?_eq_getElem h, List.getElem?_append_left (by omega), hv _ (List.getElem_mem h)]
      rfl
    · have h0 : i = ios.length := by omega
      subst h0
      refine ⟨As.length, by rw [if_neg (by omega), if_pos rfl], ?_, ?_⟩
      · rw [List.getElem?_append_right (by simp [ho])] at he
        simp [ho] at he
        simp [he]
      · rw [List.getElem?_append_right (by simp), ← hl]; simp
  · have lt : ∀ i, i < ios.length → ∃ z, ios[i]? = some z ∧ z < As.length := fun i hi => by
      obtain ⟨e', _, q2⟩ := hg i ios[i] (List.getElem?_eq_getElem hi)
      exact ⟨ios[i], List.getElem?_eq_getElem hi, (List.getElem?_eq_some_iff.mp q2).1⟩
    split at h1 <;> split at h2
    · obtain ⟨x1, e1⟩ := List.getElem?_eq_some_iff.mp h1
      obtain ⟨x2, e2⟩ := List.getElem?_eq_some_iff.mp h2
      exact (List.getElem_inj hn).mp (e1.trans e2.symm)
    · split at h2
      · rename_i q1 _ _
        obtain ⟨z, hz, hz2⟩ := lt a q1
        rw [h1] at hz
        cases hz
        have := Option.some.inj h2
        omega
      · cases h2
    · split at h1
      · rename_i q1 _
        obtain ⟨z, hz, hz2⟩ := lt b ‹_›
        rw [h2] at hz
        cases hz
        have := Option.some.inj h1
        omega
      · cases h1
    · split at h1
      · split at h2
        · omega
        · cases h2
      · cases h1
section
variable {P : Program} {w : World} {K : PySem.W.Frag} {mg : Str → Option Value} {base : Heap}
theorem start_get {N : List Str} {vs : List V} {j : Nat} (h : j < vs.length) : (L2.start N vs)[j]? = some (vs[j]?) := by
  unfold L2.start
  rw [List.getElem?_append_left (by simpa using h), List.getElem?_map, List.getElem?_eq_getElem h]; rfl
/-- a def from which nothing is raised -/
theorem fn_ok {x qual : Str} {st : Stmt} {f : Addr} {fd : FuncData} {N ps : List Str} {k : Nat} {b : M Fl} (F : Fun K x qual st f fd) (S : FnScope N ps (defScope st)) (hn : ios.Nodup) (hio : ∀ j ∈ ios, j < ps.length)
    (hbody : ∀ (cdv : Value) (A : Around) (outer : List PySem.Env) (s : Shared) (H : Hp) (E : XK), Room k (A.deeper (envOfC qual (defScope st) s.heap.objs.size f cdv)) →
      PSs (cxOf CX0 P w K mg base N qual (defScope st) f cdv A outer s H E).nox (defBody st) (rdS ⟨K, mg⟩ W0 ios b)) : FnOk P w K mg base CX0 (k + 1) f fd ps (spV ⟨K, mg⟩ ios (runF N.length ps.length ios b)) := by
  have len0 : ∀ vs H Q E, spV ⟨K, mg⟩ ios (runF N.length ps.length ios b) vs H Q E → vs.length = ps.length := fun vs H Q E ⟨G, io, ds, P0, h⟩ => by
    have hl : vs.length = ds.length := by have := P0.len; simpa using this
    by_cases z : ds.length = ps.length
    · omega
    · unfold runF at h
      rw [if_neg z] at h
      exact h.elim
  refine F.ok S len0 fun cdv A outer s H vs Q E hr hsp => ⟨_, hbody cdv A outer s H E hr, ?_⟩
  have hvl := len0 _ _ _ _ hsp
  obtain ⟨G, io, ds, P0, h⟩ := hsp
  have hl : vs.length = ds.length := by have := P0.len; simpa using this
  have hds : ds.length = ps.length := by omega
  refine ⟨⟨G, H, io, [], []⟩, G, ds.map some ++ List.replicate (N.length - ps.length) none, by unfold L2.start; simp [hl, hds], ?_, ?_⟩
  · have := P0.addNone (N.length - ps.length)
    unfold Bs.At L2.start
    simpa [hl, hds] using this
  · unfold runF at h
    rw [if_pos hds] at h
    cases hb : b (ds.map some ++ List.replicate (N.length - ps.length) none) with
    | no => simp only [hb, resF] at h
    | ex x e => simp only [hb, resF] at h
    | ok fl e =>
      rw [hb] at h
      have fin : ∀ (d : D) (os : List D), outs ios e = some os → ∀ G' H' σ' v, (∀ j ∈ ios, σ'[j]? = (L2.start N vs)[j]?) → Post ⟨K, mg⟩ G H io G' H' (σ' ++ [some v]) (e ++ [some d]) → Post ⟨K, mg⟩ G H io G' H' (ios.map (fun j => vs[j]?) ++ [some v]) (os.map some ++ [some d]) := fun d os ho G' H' σ' v hk P' => by
        obtain ⟨h1, h2⟩ := outs_get ho
        exact P'.pick hn h1 h2 fun j hj => by rw [hk j hj]; exact start_get (by have := hio j hj; omega)
      cases fl with
      | bk => simp only [resF] at h
      | ct => simp only [resF] at h
      | nx =>
        cases ho : outs ios e with
        | none => simp only [resF, ho, Option.map_none] at h
        | some os =>
          simp only [resF, ho, Option.map_some] at h
          intro G' H' σ' l1 l2 hk P'
          have P' : Post ⟨K, mg⟩ G H io G' H' σ' e := by
            unfold Bs.At at P'
            simpa using P'
          exact h G' H' .non (fin .non os ho G' H' σ' .non hk (P'.push rfl))
      | rt d =>
        cases ho : outs ios e with
        | none => simp only [resF, ho, Option.map_none] at h
        | some os =>
          simp only [resF, ho, Option.map_some] at h
          intro G' H' σ' l1 l2 hk v P'
          have P' : Post ⟨K, mg⟩ G H io G' H' (σ' ++ [some v]) (e ++ [some d]) := by
            unfold Bs.At Bs.push at P'
            simpa using P'
          exact h G' H' v (fin d os ho G' H' σ' v hk P')
end

/-! ### calls -/
def fzA : List AR → List AR
  | [] => []
  | .v d :: r => .v (frz d) :: fzA r
  | .s i :: r => .s i :: fzA r
  | .o d :: r => .o d :: fzA r
theorem fzA_length : ∀ as : List AR, (fzA as).length = as.length
  | [] => rfl
  | .v d :: r => by simp [fzA, fzA_length r]
  | .s i :: r => by simp [fzA, fzA_length r]
  | .o d :: r => by simp [fzA, fzA_length r]
theorem fzA_s : ∀ {as : List AR} {j i : Nat}, (fzA as)[j]? = some (.s i) → as[j]? = some (.s i)
  | [], _, _, h => by simp [fzA] at h
  | .v d :: r, 0, i, h => by simp [fzA] at h
  | .s k :: r, 0, i, h => by simpa [fzA] using h
  | .o d :: r, 0, i, h => by simp [fzA] at h
  | .o d :: r, j + 1, i, h => by simpa using fzA_s (as := r) (by simpa [fzA] using h)
  | .v d :: r, j + 1, i, h => by simpa using fzA_s (as := r) (by simpa [fzA] using h)
  | .s k :: r, j + 1, i, h => by simpa using fzA_s (as := r) (by simpa [fzA] using h)
theorem Post.fzAR {G0 H0 H : Hp} {io : List Addr} : ∀ (as : List AR) (vs : List V) (A : List (Option V)) (As : List (Option D)) {G : Hp}, A.length = As.length → vs.length = as.length → Post C G0 H0 io G H (A ++ vs.map some) (As ++ as.map AR.d) →
    ∃ G', Same G G' ∧ Post C G0 H0 io G' H (A ++ vs.map some) (As ++ (fzA as).map AR.d) ∧ ∀ (j : Nat) d, (fzA as)[j]? = some (.v d) → ∃ v, vs[j]? = some v ∧ RepF C G' d v
  | [], vs, A, As, G, hl, hv, P => ⟨G, Same.refl _, P, fun j d h => by simp [fzA] at h⟩
  | .s i :: r, vs, A, As, G, hl, hv, P => by
    obtain ⟨v, vr, rfl⟩ : ∃ v vr, vs = v :: vr := by
      cases vs with
      | nil => simp at hv
      | cons v vr => exact ⟨v, vr, rfl⟩
    have P1 : Post C G0 H0 io G H ((A ++ [some v]) ++ vr.map some) ((As ++ [none]) ++ r.map AR.d) := by simpa [AR.d] using P
    obtain ⟨G2, s2, P2, r2⟩ := Post.fzAR r vr (A ++ [some v]) (As ++ [none]) (by simp [hl]) (by simpa using hv) P1
    refine ⟨G2, s2, by simpa [fzA, AR.d] using P2, fun j d h => ?_⟩
    cases j with
    | zero => simp [fzA] at h
    | succ j =>
      obtain ⟨w, q1, q2⟩ := r2 j d (by simpa [fzA] using h)
      exact ⟨w, by simpa using q1, q2⟩
  | .o z :: r, vs, A, As, G, hl, hv, P => by
    obtain ⟨v, vr, rfl⟩ : ∃ v vr, vs = v :: vr := by
      cases vs with
      | nil => simp at hv
      | cons v vr => exact ⟨v, vr, rfl⟩
    have P1 : Post C G0 H0 io G H ((A ++ [some v]) ++ vr.map some) ((As ++ [some z]) ++ r.map AR.d) := by simpa [AR.d] using P
    obtain ⟨G2, s2, P2, r2⟩ := Post.fzAR r vr (A ++ [some v]) (As ++ [some z]) (by simp [hl]) (by simpa using hv) P1
    refine ⟨G2, s2, by simpa [fzA, AR.d] using P2, fun j d h => ?_⟩
    cases j with
    | zero => simp [fzA] at h
    | succ j =>
      obtain ⟨w, q1, q2⟩ := r2 j d (by simpa [fzA] using h)
      exact ⟨w, by simpa using q1, q2⟩
  | .v e :: r, vs, A, As, G, hl, hv, P => by
    obtain ⟨v, vr, rfl⟩ : ∃ v vr, vs = v :: vr := by
      cases vs with
      | nil => simp at hv
      | cons v vr => exact ⟨v, vr, rfl⟩
    have hd : (As ++ (AR.v e :: r).map AR.d)[As.length]? = some (some e) := by simp [AR.d]
    obtain ⟨G1, w, s1, hw, r1, P1⟩ := P.freeze hd
    rw [← hl] at hw
    have hw' : w = v := by simpa using hw.symm
    subst hw'
    have e1 : (As ++ (AR.v e :: r).map AR.d).set As.length (some (frz e)) = (As ++ [some (frz e)]) ++ r.map AR.d := by
      rw [List.map_cons, set_snoc]; simp
    rw [e1] at P1
    have P1 : Post C G0 H0 io G1 H ((A ++ [some w]) ++ vr.map some) ((As ++ [some (frz e)]) ++ r.map AR.d) := by simpa using P1
    obtain ⟨G2, s2, P2, r2⟩ := Post.fzAR r vr (A ++ [some w]) (As ++ [some (frz e)]) (by simp [hl]) (by simpa using hv) P1
    refine ⟨G2, s1.trans s2, by simpa [fzA, AR.d] using P2, fun j d h => ?_⟩
    cases j with
    | zero =>
      simp [fzA] at h
      subst h
      exact ⟨w, by simp, RepF.mono s2 _ _ r1⟩
    | succ j =>
      obtain ⟨w', q1, q2⟩ := r2 j d (by simpa [fzA] using h)
      exact ⟨w', by simpa using q1, q2⟩
/-- what a callee is handed -/
def argD (e : Env) : List AR → Option (List D)
  | [] => some []
  | .v d :: r => (argD e r).map (frz d :: ·)
  | .s i :: r => match e[i]? with
    | some (some d) => (argD e r).map (d :: ·)
    | _ => none
  | .o d :: r => (argD e r).map (d :: ·)
/-- which arguments are names that may change: their places, the names -/
def sPos : Nat → List AR → List Nat
  | _, [] => []
  | n, .v _ :: r => sPos (n + 1) r
  | n, .s _ :: r => n :: sPos (n + 1) r
  | n, .o _ :: r => n :: sPos (n + 1) r
def sSl : List AR → List Nat
  | [] => []
  | .v _ :: r => sSl r
  | .s i :: r => i :: sSl r
  | .o _ :: r => sSl r
/-- where what may change lies among all that is held: the arguments stand behind b -/
def sIx (b : Nat) : Nat → List AR → List Nat
  | _, [] => []
  | n, .v _ :: r => sIx b (n + 1) r
  | n, .s i :: r => i :: sIx b (n + 1) r
  | n, .o _ :: r => (b + n) :: sIx b (n + 1) r
def putSl : Env → List Nat → List D → Env
  | e, i :: sl, o :: os => putSl (e.set i (some o)) sl os
  | e, _, _ => e
/-- the names behind a call -/
def putAs : Env → List AR → List D → Env
  | e, .v _ :: r, os => putAs e r os
  | e, .s i :: r, o :: os => putAs (e.set i (some o)) r os
  | e, .o _ :: r, _ :: os => putAs e r os
  | e, _, _ => e
def eCall (F : Fn) (ios : List Nat) (fa : M (List AR)) : M D := fun env => (fa env).bind fun as e =>
  if sPos 0 as = ios ∧ (sSl as).Nodup then match argD e as with
    | none => .no
    | some ds => match F ds with
      | none => .no
      | some (.ret d, os) => if os.length = ios.length then .ok d (putAs e as os) else .no
      | some (.exc x, os) => if os.length = ios.length then .ex x (putAs e as os) else .no
  else .no
theorem argD_get {e : Env} : ∀ {as : List AR} {ds : List D}, argD e as = some ds → ds.length = as.length ∧ ∀ (j : Nat) (a : AR), as[j]? = some a → ∃ d, ds[j]? = some d ∧ (match a with
    | .v x => d = frz x
    | .s i => e[i]? = some (some d)
    | .o x => d = x)
  | [], ds, h => by cases h; exact ⟨rfl, fun j a q => by simp at q⟩
  | .v x :: r, ds, h => by
    unfold argD at h
    cases q : argD e r with
    | none => rw [q] at h; cases h
    | some ds' =>
      rw [q] at h
      cases h
      obtain ⟨h1, h2⟩ := argD_get q
      refine ⟨by simp [h1], fun j a hj => ?_⟩
      cases j with
      | zero => simp at hj; subst hj; exact ⟨frz x, by simp, rfl⟩
      | succ j => simpa using h2 j a (by simpa using hj)
  | .o x :: r, ds, h => by
    unfold argD at h
    cases q : argD e r with
    | none => rw [q] at h; cases h
    | some ds' =>
      rw [q] at h
      cases h
      obtain ⟨h1, h2⟩ := argD_get q
      refine ⟨by simp [h1], fun j a hj => ?_⟩
      cases j with
      | zero => simp at hj; subst hj; exact ⟨x, by simp, rfl⟩
      | succ j => simpa using h2 j a (by simpa using hj)
  | .s i :: r, ds, h => by
    unfold argD at h
    split at h
    · rename_i d hd
      cases q : argD e r with
      | none => rw [q] at h; cases h
      | some ds' =>
        rw [q] at h
        cases h
        obtain ⟨h1, h2⟩ := argD_get q
        refine ⟨by simp [h1], fun j a hj => ?_⟩
        cases j with
        | zero => simp at hj; subst hj; exact ⟨d, by simp, hd⟩
        | succ j => simpa using h2 j a (by simpa using hj)
    · cases h
theorem sPos_sIx (b : Nat) : ∀ (as : List AR) (n : Nat), (sPos n as).length = (sIx b n as).length ∧ ∀ (k p : Nat), (sPos n as)[k]? = some p → ∃ i, (sIx b n as)[k]? = some i ∧ n ≤ p ∧ (as[p - n]? = some (.s i) ∨ (i = b + p ∧ ∃ d, as[p - n]? = some (.o d)))
  | [], n => ⟨rfl, fun k p h => by simp [sPos] at h⟩
  | .v d :: r, n => by
    obtain ⟨h1, h2⟩ := sPos_sIx b r (n + 1)
    refine ⟨h1, fun k p h => ?_⟩
    obtain ⟨i, q1, q2, q3⟩ := h2 k p h
    refine ⟨i, q1, by omega, ?_⟩
    rw [show p - n = (p - (n + 1)) + 1 by omega, List.getElem?_cons_succ]; exact q3
  | .s i :: r, n => by
    obtain ⟨h1, h2⟩ := sPos_sIx b r (n + 1)
    refine ⟨by simp [sPos, sIx, h1], fun k p h => ?_⟩
    cases k with
    | zero =>
      simp [sPos] at h
      subst h
      exact ⟨i, by simp [sIx], Nat.le_refl _, .inl (by simp)⟩
    | succ k =>
      obtain ⟨i', q1, q2, q3⟩ := h2 k p (by simpa [sPos] using h)
      refine ⟨i', by simpa [sIx] using q1, by omega, ?_⟩
      rw [show p - n = (p - (n + 1)) + 1 by omega, List.getElem?_cons_succ]; exact q3
  | .o z :: r, n => by
    obtain ⟨h1, h2⟩ := sPos_sIx b r (n + 1)
    refine ⟨by simp [sPos, sIx, h1], fun k p h => ?_⟩
    cases k with
    | zero =>
      simp [sPos] at h
      subst h
      exact ⟨b + n, by simp [sIx], Nat.le_refl _, .inr ⟨rfl, z, by simp⟩⟩
    | succ k =>
      obtain ⟨i', q1, q2, q3⟩ := h2 k p (by simpa [sPos] using h)
      refine ⟨i', by simpa [sIx] using q1, by omega, ?_⟩
      rw [show p - n = (p - (n + 1)) + 1 by omega, List.getElem?_cons_succ]; exact q3
theorem s_sIx (b : Nat) : ∀ (as : List AR) (n p i : Nat), (as[p]? = some (.s i) ∨ (i = b + (n + p) ∧ ∃ d, as[p]? = some (.o d))) → ∃ k : Nat, (sPos n as)[k]? = some (n + p) ∧ (sIx b n as)[k]? = some i
  | [], n, p, i, h => by simp at h
  | .v d :: r, n, 0, i, h => by simp at h
  | .v d :: r, n, p + 1, i, h => by
    obtain ⟨k, h1, h2⟩ := s_sIx b r (n + 1) p i (h.imp (fun z => by simpa using z) fun ⟨z, d, w⟩ => ⟨by omega, d, by simpa using w⟩)
    exact ⟨k, by rw [sPos, h1]; congr 1; omega, h2⟩
  | .s j :: r, n, 0, i, h => by
    simp at h
    exact ⟨0, by simp [sPos], by simp [sIx, h]⟩
  | .s j :: r, n, p + 1, i, h => by
    obtain ⟨k, h1, h2⟩ := s_sIx b r (n + 1) p i (h.imp (fun z => by simpa using z) fun ⟨z, d, w⟩ => ⟨by omega, d, by simpa using w⟩)
    exact ⟨k + 1, by simp only [sPos, List.getElem?_cons_succ]; rw [h1]; congr 1; omega, by simpa [sIx] using h2⟩
  | .o z :: r, n, 0, i, h => by
    simp at h
    exact ⟨0, by simp [sPos], by simp [sIx, h]⟩
  | .o z :: r, n, p + 1, i, h => by
    obtain ⟨k, h1, h2⟩ := s_sIx b r (n + 1) p i (h.imp (fun z => by simpa using z) fun ⟨z, d, w⟩ => ⟨by omega, d, by simpa using w⟩)
    exact ⟨k + 1, by simp only [sPos, List.getElem?_cons_succ]; rw [h1]; congr 1; omega, by simpa [sIx] using h2⟩
theorem sIx_mem (b : Nat) : ∀ (as : List AR) (n x : Nat), x ∈ sIx b n as → x ∈ sSl as ∨ (b + n ≤ x ∧ x < b + n + as.length)
  | [], n, x, h => by simp [sIx] at h
  | .v d :: r, n, x, h => (sIx_mem b r (n + 1) x h).imp id fun ⟨h1, h2⟩ => ⟨by omega, by simp; omega⟩
  | .s i :: r, n, x, h => by
    simp only [sIx, List.mem_cons] at h
    rcases h with rfl | h
    · exact .inl (by simp [sSl])
    · exact (sIx_mem b r (n + 1) x h).imp (fun z => by simp [sSl, z]) fun ⟨h1, h2⟩ => ⟨by omega, by simp; omega⟩
  | .o d :: r, n, x, h => by
    simp only [sIx, List.mem_cons] at h
    rcases h with rfl | h
    · exact .inr ⟨by omega, by simp⟩
    · exact (sIx_mem b r (n + 1) x h).imp id fun ⟨h1, h2⟩ => ⟨by omega, by simp; omega⟩
theorem sIx_nodup (b : Nat) : ∀ (as : List AR) (n : Nat), (sSl as).Nodup → (∀ i ∈ sSl as, i < b) → (sIx b n as).Nodup
  | [], n, _, _ => .nil
  | .v d :: r, n, h, hb => sIx_nodup b r (n + 1) h hb
  | .s i :: r, n, h, hb => by
    obtain ⟨h1, h2⟩ := List.nodup_cons.mp (show (i :: sSl r).Nodup from h)
    refine List.nodup_cons.mpr ⟨fun z => ?_, sIx_nodup b r (n + 1) h2 fun j hj => hb j (by simp [sSl, hj])⟩
    rcases sIx_mem b r (n + 1) i z with q | ⟨q, _⟩
    · exact h1 q
    · have := hb i (by simp [sSl]); omega
  | .o d :: r, n, h, hb => by
    refine List.nodup_cons.mpr ⟨fun z => ?_, sIx_nodup b r (n + 1) h hb⟩
    rcases sIx_mem b r (n + 1) (b + n) z with q | ⟨q, _⟩
    · have := hb _ q; omega
    · omega
theorem putSl_length : ∀ (sl : List Nat) (e : Env) (os : List D), (putSl e sl os).length = e.length
  | [], e, os => by unfold putSl; rfl
  | i :: sl, e, [] => by unfold putSl; rfl
  | i :: sl, e, o :: os => by unfold putSl; rw [putSl_length sl]; simp
theorem putSl_out {i : Nat} : ∀ (sl : List Nat) (e : Env) (os : List D), i ∉ sl → (putSl e sl os)[i]? = e[i]?
  | [], e, os, _ => by unfold putSl; rfl
  | j :: sl, e, [], _ => by unfold putSl; rfl
  | j :: sl, e, o :: os, h => by
    unfold putSl
    rw [putSl_out sl _ _ (fun z => h (List.mem_cons_of_mem _ z)), List.getElem?_set_ne (fun z => h (by simp [z]))]
theorem putSl_in {i : Nat} : ∀ (sl : List Nat) (e : Env) (os : List D) (k : Nat), sl.Nodup → sl[k]? = some i → i < e.length → sl.length = os.length → (putSl e sl os)[i]? = some os[k]?
  | [], e, os, k, _, h, _, _ => by simp at h
  | j :: sl, e, [], k, _, _, _, h => by simp at h
  | j :: sl, e, o :: os, 0, nd, h, hi, _ => by
    simp at h
    subst h
    unfold putSl
    rw [putSl_out sl _ _ (List.nodup_cons.mp nd).1, List.getElem?_set_self hi]; simp
  | j :: sl, e, o :: os, k + 1, nd, h, hi, hl => by
    unfold putSl
    rw [putSl_in sl _ os k (List.nodup_cons.mp nd).2 (by simpa using h) (by simpa using hi) (by simpa using hl)]; simp
theorem Post.call {G0 H0 G H G' H' : Hp} {io0 : List Addr} {σ cs : List (Option V)} {ds : List (Option D)} {fpf : Nat → List Addr} {sl : List Nat} {os : List D} {v : V} {d : D} (P : Post C G0 H0 io0 G H σ ds) (O : Own C G H σ ds fpf) (hin : ∀ i p, p ∈ fpf i → p ∈ io0 ∨ H0 p = none)
    (nd : sl.Nodup) (hlt : ∀ i ∈ sl, i < ds.length) (hol : os.length = sl.length) (hcl : cs.length = sl.length) (hc : ∀ (k i : Nat), sl[k]? = some i → cs[k]? = σ[i]?) (P' : Post C G H (sl.map fpf).flatten G' H' (cs ++ [some v]) (os.map some ++ [some d])) :
    Post C G0 H0 io0 G' H' (σ ++ [some v]) (putSl ds sl os ++ [some d]) := by
  obtain ⟨fq, O', hin'⟩ := P'.own
  have hlen := O.len
  have hpl : (putSl ds sl os).length = ds.length := putSl_length _ _ _
  have memio : ∀ p, p ∈ (sl.map fpf).flatten ↔ ∃ i ∈ sl, p ∈ fpf i := fun p => by
    rw [List.mem_flatten]
    constructor
    · rintro ⟨l, h1, h2⟩
      obtain ⟨i, h3, rfl⟩ := List.mem_map.mp h1
      exact ⟨i, h3, h2⟩
    · rintro ⟨i, h1, h2⟩
      exact ⟨_, List.mem_map.mpr ⟨i, h1, rfl⟩, h2⟩
  have notio : ∀ i p, i ∉ sl → p ∈ fpf i → p ∉ (sl.map fpf).flatten := fun i p h1 h2 h3 => by
    obtain ⟨j, hj, hp⟩ := (memio p).mp h3
    have := O.dj i j p h2 hp
    exact h1 (this ▸ hj)
  have keepc : ∀ i p, i ∉ sl → p ∈ fpf i → H' p = H p := fun i p h1 h2 => by
    cases e : H p with
    | none => exact absurd e (O.hp i p h2)
    | some o => exact P'.kept p o e (notio i p h1 h2)
  have at_ix : ∀ i ∈ sl, sl[sl.idxOf i]? = some i := fun i hi => by
    have h1 := List.idxOf_lt_length_of_mem hi
    rw [List.getElem?_eq_getElem h1, List.getElem_idxOf h1]
  -- a cell of the callee's end is one of the handed ones or new
  have newc : ∀ k p, p ∈ fq k → (∃ i ∈ sl, p ∈ fpf i) ∨ H p = none := fun k p h => (hin' k p h).imp (fun z => (memio p).mp z) id
  have apart : ∀ i p k, i ∉ sl → p ∈ fpf i → p ∈ fq k → False := fun i p k h1 h2 h3 => by
    rcases newc k p h3 with ⟨j, hj, q⟩ | q
    · exact h1 ((O.dj i j p h2 q) ▸ hj)
    · exact O.hp i p h2 q
  refine P.re (fpf := fpf) (fpf' := fun i => if i = ds.length then fq sl.length else if i ∈ sl then fq (sl.idxOf i) else if i < ds.length then fpf i else []) hin P'.gg P'.gh (fun a o h k => P'.kept a o h fun z => ?_) P'.dom (fun a h k hg => P'.gf a h (fun z => ?_) hg) ⟨by simp [hpl, hlen], fun i e he => ?_, fun i => ?_, fun i j p hi hj => ?_, fun i p hi => ?_, fun i p hi => ?_⟩ fun i p hi => ?_
  · obtain ⟨i, _, q⟩ := (memio a).mp z
    exact k i q
  · obtain ⟨i, _, q⟩ := (memio a).mp z
    exact k i q
  · have hi := (List.getElem?_eq_some_iff.mp he).1
    simp [hpl] at hi
    by_cases h0 : i = ds.length
    · subst h0
      rw [List.getElem?_append_right (by omega), hpl, Nat.sub_self] at he
      simp at he
      subst he
      obtain ⟨v', q1, q2⟩ := O'.rep sl.length d (by rw [List.getElem?_append_right (by simp [hol])]; simp [hol])
      have : v' = v := by
        rw [List.getElem?_append_right (by omega), hcl, Nat.sub_self] at q1
        simpa using q1.symm
      subst this
      exact ⟨v', by rw [← hlen]; simp, by simp only [if_true]; exact q2⟩
    · have hi' : i < ds.length := by omega
      rw [List.getElem?_append_left (by omega)] at he
      by_cases hs : i ∈ sl
      · have hk := at_ix i hs
        have hkl := List.idxOf_lt_length_of_mem hs
        rw [putSl_in sl ds os _ nd hk hi' (by omega)] at he
        have he' : os[sl.idxOf i]? = some e := by simpa using he
        obtain ⟨v', q1, q2⟩ := O'.rep (sl.idxOf i) e (by rw [List.getElem?_append_left (by simp [hol]; exact hkl), List.getElem?_map, he']; rfl)
        rw [List.getElem?_append_left (by omega), hc _ _ hk] at q1
        exact ⟨v', by rw [List.getElem?_append_left (by omega)]; exact q1, by simp only [h0, if_false, hs, if_true]; exact q2⟩
      · rw [putSl_out sl ds os hs] at he
        obtain ⟨v', q1, q2⟩ := O.rep i e he
        refine ⟨v', by rw [List.getElem?_append_left (by omega)]; exact q1, ?_⟩
        simp only [h0, if_false, hs, hi', if_true]
        exact RepO.mono P'.gg _ _ _ (fun a ha => keepc i a hs ha) q2
  · (try dsimp only)
    split
    · exact O'.nd _
    · split
      · exact O'.nd _
      · split
        · exact O.nd _
        · exact .nil
  · (try dsimp only at hi hj)
    have kk : ∀ i j, i ∈ sl → j ∈ sl → sl.idxOf i = sl.idxOf j → i = j := fun i j h1 h2 e => by
      have a1 := at_ix i h1
      have a2 := at_ix j h2
      rw [e, a2] at a1
      exact (Option.some.inj a1).symm
    have lk : ∀ i, i ∈ sl → sl.idxOf i ≠ sl.length := fun i h1 => Nat.ne_of_lt (List.idxOf_lt_length_of_mem h1)
    by_cases i0 : i = ds.length
    · rw [if_pos i0] at hi
      by_cases j0 : j = ds.length
      · omega
      · rw [if_neg j0] at hj
        by_cases j1 : j ∈ sl
        · rw [if_pos j1] at hj
          exact absurd (O'.dj _ _ p hj hi) (lk j j1)
        · rw [if_neg j1] at hj
          split at hj
          · exact (apart j p _ j1 hj hi).elim
          · cases hj
    · rw [if_neg i0] at hi
      by_cases i1 : i ∈ sl
      · rw [if_pos i1] at hi
        by_cases j0 : j = ds.length
        · rw [if_pos j0] at hj
          exact absurd (O'.dj _ _ p hi hj) (lk i i1)
        · rw [if_neg j0] at hj
          by_cases j1 : j ∈ sl
          · rw [if_pos j1] at hj
            exact kk i j i1 j1 (O'.dj _ _ p hi hj)
          · rw [if_neg j1] at hj
            split at hj
            · exact (apart j p _ j1 hj hi).elim
            · cases hj
      · rw [if_neg i1] at hi
        split at hi
        · by_cases j0 : j = ds.length
          · rw [if_pos j0] at hj
            exact (apart i p _ i1 hi hj).elim
          · rw [if_neg j0] at hj
            by_cases j1 : j ∈ sl
            · rw [if_pos j1] at hj
              exact (apart i p _ i1 hi hj).elim
            · rw [if_neg j1] at hj
              split at hj
              · exact O.dj i j p hi hj
              · cases hj
        · cases hi
  · (try dsimp only at hi)
    split at hi
    · exact O'.gn _ p hi
    · split at hi
      · exact O'.gn _ p hi
      · rename_i i1
        split at hi
        · exact P'.gf p (O.hp i p hi) (notio i p i1 hi) (O.gn i p hi)
        · cases hi
  · (try dsimp only at hi)
    split at hi
    · exact O'.hp _ p hi
    · split at hi
      · exact O'.hp _ p hi
      · rename_i i1
        split at hi
        · rw [keepc i p i1 hi]; exact O.hp i p hi
        · cases hi
  · (try dsimp only at hi)
    split at hi
    · exact (newc _ p hi).imp (fun ⟨j, _, q⟩ => ⟨j, q⟩) id
    · split at hi
      · exact (newc _ p hi).imp (fun ⟨j, _, q⟩ => ⟨j, q⟩) id
      · split at hi
        · exact .inl ⟨i, hi⟩
        · cases hi
theorem putAs_length : ∀ (as : List AR) (e : Env) (os : List D), (putAs e as os).length = e.length
  | [], e, os => by simp [putAs]
  | .v _ :: r, e, os => by simp [putAs, putAs_length r]
  | .s i :: r, e, [] => by simp [putAs]
  | .s i :: r, e, o :: os => by simp [putAs, putAs_length r]
  | .o _ :: r, e, [] => by simp [putAs]
  | .o _ :: r, e, o :: os => by simp [putAs, putAs_length r]
theorem putSl_as (b : Nat) (T : Env) : ∀ (as : List AR) (n : Nat) (e M : Env) (os : List D), (∀ i ∈ sSl as, i < e.length) → (e ++ T).length ≤ b → ∃ M', putSl ((e ++ T) ++ M) (sIx b n as) os = (putAs e as os ++ T) ++ M' ∧ M'.length = M.length
  | [], n, e, M, os, _, _ => ⟨M, by simp [sIx, putAs, putSl], rfl⟩
  | .v _ :: r, n, e, M, os, h, hb => by simpa only [sIx, putAs] using putSl_as b T r (n + 1) e M os h hb
  | .s i :: r, n, e, M, [], h, hb => ⟨M, by simp [sIx, putAs, putSl], rfl⟩
  | .s i :: r, n, e, M, o :: os, h, hb => by
    have hi := h i (by simp [sSl])
    obtain ⟨M', h1, h2⟩ := putSl_as b T r (n + 1) (e.set i (some o)) M os (fun j hj => by simp; exact h j (by simp [sSl, hj])) (by simpa using hb)
    refine ⟨M', ?_, h2⟩
    simp only [sIx, putAs, putSl]
    rw [List.append_assoc, List.set_append_left _ _ hi, ← List.append_assoc, h1]
  | .o _ :: r, n, e, M, [], h, hb => ⟨M, by simp [sIx, putAs, putSl], rfl⟩
  | .o _ :: r, n, e, M, o :: os, h, hb => by
    obtain ⟨M', h1, h2⟩ := putSl_as b T r (n + 1) e (M.set (b + n - (e ++ T).length) (some o)) os h hb
    refine ⟨M', ?_, by simpa using h2⟩
    simp only [sIx, putAs, putSl]
    rw [List.set_append_right _ _ (by omega), h1]
/-- a call at its arguments: as is handed over, what the callee leaves comes back -/
theorem call_core {F : Fn} {cios : List Nat} {B : Bs} {σ : L2.St} {as : List AR} {e : Env} {ds : List D} {G1 H1 : Hp} {vs : List V} {Q : VK} {E : XK} (hx : B.xs.length = B.ts.length) (l1 : e.length = σ.length) (P1 : (B.pushs vs as).At C G1 H1 σ e)
    (hs : ∀ (j i : Nat), as[j]? = some (.s i) → ∃ v, vs[j]? = some v ∧ σ[i]? = some (some v)) (hn : vs.length = as.length) (hpos : sPos 0 as = cios) (hnd : (sSl as).Nodup) (ha : argD e as = some ds)
    (q : match F ds with
      | none => False
      | some (.ret d, os) => os.length = cios.length ∧ ∀ G' H' v M', M'.length = as.length → (∀ z, as[0]? = some (.o z) → M'[0]? = some (os[0]?)) → Post C B.G0 B.H0 B.io G' H' ((σ ++ B.xs) ++ vs.map some ++ [some v]) ((putAs e as os ++ B.ts) ++ M' ++ [some d]) → Q v H'
      | some (.exc x, os) => os.length = cios.length ∧ ∀ G' H' cls dd M', M'.length = as.length → Post C B.G0 B.H0 B.io G' H' ((σ ++ B.xs) ++ vs.map some) ((putAs e as os ++ B.ts) ++ M') → XOk C G' H' x cls dd → E cls dd H') : spV C cios F vs H1 Q E := by
  have P1' : Post C B.G0 B.H0 B.io G1 H1 ((σ ++ B.xs) ++ vs.map some) ((e ++ B.ts) ++ as.map AR.d) := by
    unfold Bs.At Bs.pushs at P1
    simpa [List.append_assoc] using P1
  obtain ⟨G2, s2, P2, rv⟩ := Post.fzAR as vs _ _ (by simp; omega) hn P1'
  obtain ⟨fpf, O, hin⟩ := id P2.own
  obtain ⟨hdl, hget⟩ := argD_get ha
  have hsl1 : ∀ i ∈ sSl as, ∃ p : Nat, as[p]? = some (AR.s i) := fun i hi => by
    have key : ∀ as : List AR, i ∈ sSl as → ∃ p : Nat, as[p]? = some (AR.s i) := by
      intro as
      induction as with
      | nil => intro h; simp [sSl] at h
      | cons a r ih =>
        intro h
        cases a with
        | v d => obtain ⟨p, hp⟩ := ih h; exact ⟨p + 1, by simpa using hp⟩
        | o d => obtain ⟨p, hp⟩ := ih h; exact ⟨p + 1, by simpa using hp⟩
        | s k =>
          simp only [sSl, List.mem_cons] at h
          rcases h with rfl | h
          · exact ⟨0, by simp⟩
          · obtain ⟨p, hp⟩ := ih h; exact ⟨p + 1, by simpa using hp⟩
    exact key as hi
  have hslt : ∀ i ∈ sSl as, i < e.length := fun i hi => by
    obtain ⟨p, hp⟩ := hsl1 i hi
    obtain ⟨d, _, q5⟩ := hget _ _ hp
    exact (List.getElem?_eq_some_iff.mp q5).1
  let b := (e ++ B.ts).length
  have hbe : e.length ≤ b := by simp [b]
  have hnd2 : (sIx b 0 as).Nodup := sIx_nodup b as 0 hnd fun i hi => by have := hslt i hi; omega
  have hbx : (σ ++ B.xs).length = b := by simp [b]; omega
  -- the callee's entry
  have OC : ∃ fpc, Own C G2 H1 (vs.map some) (ds.map some) fpc ∧ ∀ i p, p ∈ fpc i → p ∈ ((sIx b 0 as).map fpf).flatten := by
    refine ⟨fun j => match as[j]? with | some (.s i) => fpf i | some (.o _) => fpf (b + j) | _ => [], ⟨by simp [hn, hdl], fun j d hd => ?_, fun j => ?_, fun j j' p h1 h2 => ?_, fun j p h1 => ?_, fun j p h1 => ?_⟩, fun j p h1 => ?_⟩
    · rw [List.getElem?_map] at hd
      cases hdj : ds[j]? with
      | none => rw [hdj] at hd; cases hd
      | some d' =>
        rw [hdj] at hd
        cases hd
        have hj : j < as.length := by have := (List.getElem?_eq_some_iff.mp hdj).1; omega
        have haj := List.getElem?_eq_getElem hj
        obtain ⟨d2, q1, q2⟩ := hget j as[j] haj
        rw [hdj] at q1
        cases q1
        cases hcase : as[j] with
        | v x =>
          rw [hcase] at q2
          have q2 : d = frz x := q2
          subst q2
          have fa_get : ∀ (as : List AR) (j : Nat) (x : D), as[j]? = some (.v x) → (fzA as)[j]? = some (.v (frz x)) := by
            intro as
            induction as with
            | nil => intro j x h; simp at h
            | cons a r ih =>
              intro j x h
              cases j with
              | zero =>
                simp at h
                subst h
                simp [fzA]
              | succ j =>
                cases a with
                | v y => simpa [fzA] using ih j x (by simpa using h)
                | s y => simpa [fzA] using ih j x (by simpa using h)
                | o y => simpa [fzA] using ih j x (by simpa using h)
          have hz := fa_get as j x (by rw [haj, hcase])
          obtain ⟨v, w1, w2⟩ := rv j _ hz
          refine ⟨v, by rw [List.getElem?_map, w1]; rfl, ?_⟩
          rw [haj, hcase]
          exact w2.o
        | s i =>
          rw [hcase] at q2
          have q2 : e[i]? = some (some d) := q2
          obtain ⟨v, w1, w2⟩ := hs j i (by rw [haj, hcase])
          have hi := (List.getElem?_eq_some_iff.mp q2).1
          obtain ⟨v', z1, z2⟩ := O.rep i d (by rw [List.append_assoc, List.getElem?_append_left hi]; exact q2)
          rw [List.append_assoc, List.getElem?_append_left (by omega), w2] at z1
          cases z1
          refine ⟨v, by rw [List.getElem?_map, w1]; rfl, ?_⟩
          rw [haj, hcase]
          exact z2
        | o x =>
          rw [hcase] at q2
          have q2 : d = x := q2
          subst q2
          have fa_get : ∀ (as : List AR) (j : Nat) (x : D), as[j]? = some (.o x) → (fzA as)[j]? = some (.o x) := by
            intro as
            induction as with
            | nil => intro j x h; simp at h
            | cons a r ih =>
              intro j x h
              cases j with
              | zero =>
                simp at h
                subst h
                simp [fzA]
              | succ j =>
                cases a with
                | v y => simpa [fzA] using ih j x (by simpa using h)
                | s y => simpa [fzA] using ih j x (by simpa using h)
                | o y => simpa [fzA] using ih j x (by simpa using h)
          have hz := fa_get as j d (by rw [haj, hcase])
          obtain ⟨v, z1, z2⟩ := O.rep (b + j) d (by rw [List.getElem?_append_right (by omega), show b + j - (e ++ B.ts).length = j by omega, List.getElem?_map, hz]; rfl)
          rw [List.getElem?_append_right (by omega), show b + j - (σ ++ B.xs).length = j by omega] at z1
          refine ⟨v, z1, ?_⟩
          rw [haj, hcase]
          exact z2
    · (try dsimp only)
      split
      · exact O.nd _
      · exact O.nd _
      · exact .nil
    · (try dsimp only at h1 h2)
      have loc : ∀ j p, p ∈ (match as[j]? with | some (.s i) => fpf i | some (.o _) => fpf (b + j) | _ => []) → ∃ i, p ∈ fpf i ∧ ∃ k : Nat, (sPos 0 as)[k]? = some (0 + j) ∧ (sIx b 0 as)[k]? = some i := fun j p h => by
        split at h
        · rename_i i hi
          exact ⟨i, h, s_sIx b as 0 j i (.inl hi)⟩
        · rename_i d hi
          exact ⟨b + j, h, s_sIx b as 0 j (b + j) (.inr ⟨by omega, d, hi⟩)⟩
        · cases h
      obtain ⟨i, m1, k, a1, a2⟩ := loc j p h1
      obtain ⟨i', m2, k', b1, b2⟩ := loc j' p h2
      have := O.dj _ _ p m1 m2
      subst this
      have : k = k' := by
        obtain ⟨x1, y1⟩ := List.getElem?_eq_some_iff.mp a2
        obtain ⟨x2, y2⟩ := List.getElem?_eq_some_iff.mp b2
        exact (List.getElem_inj hnd2).mp (y1.trans y2.symm)
      subst this
      rw [a1] at b1
      have := Option.some.inj b1
      omega
    · (try dsimp only at h1)
      split at h1
      · exact O.gn _ p h1
      · exact O.gn _ p h1
      · cases h1
    · (try dsimp only at h1)
      split at h1
      · exact O.hp _ p h1
      · exact O.hp _ p h1
      · cases h1
    · (try dsimp only at h1)
      split at h1
      · rename_i i hi
        obtain ⟨k, a1, a2⟩ := s_sIx b as 0 j i (.inl hi)
        exact List.mem_flatten.mpr ⟨_, List.mem_map.mpr ⟨i, List.mem_of_getElem? a2, rfl⟩, h1⟩
      · rename_i d hi
        obtain ⟨k, a1, a2⟩ := s_sIx b as 0 j (b + j) (.inr ⟨by omega, d, hi⟩)
        exact List.mem_flatten.mpr ⟨_, List.mem_map.mpr ⟨b + j, List.mem_of_getElem? a2, rfl⟩, h1⟩
      · cases h1
  obtain ⟨fpc, OC, OCin⟩ := OC
  have PC : Post C G2 H1 ((sIx b 0 as).map fpf).flatten G2 H1 (vs.map some) (ds.map some) := ⟨Same.refl _, P2.gh, fun _ _ h _ => h, fun _ h => h, fun _ _ _ h => h, fpc, OC, fun i p h => .inl (OCin i p h)⟩
  refine ⟨G2, ((sIx b 0 as).map fpf).flatten, ds, PC, ?_⟩
  have hps : cios.length = (sIx b 0 as).length := by rw [← hpos]; exact (sPos_sIx b as 0).1
  have fin : ∀ (os : List D) (cs : List (Option V)) (G' H' : Hp) (v : V) (d : D), os.length = cios.length → cs = cios.map (fun j => vs[j]?) → Post C G2 H1 ((sIx b 0 as).map fpf).flatten G' H' (cs ++ [some v]) (os.map some ++ [some d]) →
      ∃ M', M'.length = as.length ∧ (∀ z, as[0]? = some (.o z) → M'[0]? = some (os[0]?)) ∧ Post C B.G0 B.H0 B.io G' H' ((σ ++ B.xs) ++ vs.map some ++ [some v]) ((putAs e as os ++ B.ts) ++ M' ++ [some d]) := by
    intro os cs G' H' v d hos hcs P'
    subst hcs
    have R := Post.call P2 O hin hnd2 (fun i hi => ?_) (by omega) (by simp; omega) (fun k i hk => ?_) P'
    · obtain ⟨M', m1, m2⟩ := putSl_as b B.ts as 0 e ((fzA as).map AR.d) os hslt (Nat.le_refl _)
      refine ⟨M', by rw [m2]; simp [fzA_length], fun z hz => ?_, by rw [m1] at R; exact R⟩
      have h0 : (sIx b 0 as)[0]? = some b := by
        cases as with
        | nil => simp at hz
        | cons a r =>
          simp at hz
          subst hz
          simp [sIx]
      have h1 := putSl_in (i := b) (sIx b 0 as) (e ++ B.ts ++ (fzA as).map AR.d) os 0 hnd2 h0 (by
        have : 0 < as.length := (List.getElem?_eq_some_iff.mp hz).1
        simp [b, fzA_length]; omega) (by omega)
      rw [m1, List.getElem?_append_right (by simp [putAs_length, b])] at h1
      rw [show b - (putAs e as os ++ B.ts).length = 0 by simp [putAs_length, b]] at h1
      exact h1
    · rcases sIx_mem b as 0 i hi with h | ⟨h1, h2⟩
      · have := hslt i h; simp; omega
      · simp [fzA_length]; simp [b] at h1 h2; omega
    · have hkl : k < (sPos 0 as).length := by rw [(sPos_sIx b as 0).1]; exact (List.getElem?_eq_some_iff.mp hk).1
      obtain ⟨pk, hpk⟩ : ∃ pk, (sPos 0 as)[k]? = some pk := ⟨_, List.getElem?_eq_getElem hkl⟩
      obtain ⟨i', q1, _, q3⟩ := (sPos_sIx b as 0).2 k _ hpk
      rw [hk] at q1
      cases q1
      rw [hpos] at hpk
      rcases q3 with q3 | ⟨q3, d', q4⟩
      · obtain ⟨w, w1, w2⟩ := hs _ _ q3
        obtain ⟨d2, _, q5⟩ := hget _ _ q3
        have hi := (List.getElem?_eq_some_iff.mp q5).1
        rw [List.append_assoc, List.getElem?_append_left (by omega), w2, List.getElem?_map]
        rw [hpk]
        simpa using w1
      · subst q3
        rw [List.getElem?_append_right (by omega), List.getElem?_map, hpk]
        rw [show b + pk - (σ ++ B.xs).length = pk by omega, List.getElem?_map]
        have hpl : pk < vs.length := by
          have := (List.getElem?_eq_some_iff.mp q4).1
          omega
        show some (vs[pk]?) = Option.map some (vs[pk]?)
        rw [List.getElem?_eq_getElem hpl]
        rfl
  cases hF : F ds with
  | none => simp only [hF] at q
  | some r =>
    obtain ⟨r, os⟩ := r
    cases r with
    | exc x =>
      simp only [hF] at q
      intro G' H' cls dd P' X'
      have P'' : Post C G2 H1 ((sIx b 0 as).map fpf).flatten G' H' (cios.map (fun j => vs[j]?) ++ [some .non]) (os.map some ++ [some .non]) := P'.push rfl
      obtain ⟨M', m1, m2, R⟩ := fin os _ G' H' .non .non q.1 rfl P''
      exact q.2 G' H' cls dd M' m1 R.pop X'
    | ret d =>
      simp only [hF] at q
      intro G' H' v P'
      obtain ⟨M', m1, m2, R⟩ := fin os _ G' H' v d q.1 rfl P'
      exact q.2 G' H' v M' m1 m2 R
/-- the call of a def -/
theorem rd_callX {F : Fn} {cios : List Nat} {fa : M (List AR)} {σ : L2.St} {H : Hp} {Q : VK} (h : rdE C W (eCall F cios fa) σ H Q) : rdA C W fa σ H fun vs H1 => spV C cios F (vs ++ []) H1 Q fun cls dd H2 => W cls dd σ H2 := by
  obtain ⟨B, G, env, hl, P, o⟩ := h
  have hx := at_len P hl
  refine ⟨B, G, env, hl, P, o.bind.mono fun as e _ q G1 H1 vs l1 P1 hs hn => ?_⟩
  show spV C cios F (vs ++ []) H1 Q _
  rw [List.append_nil]
  split at q
  · rename_i hcond
    obtain ⟨hpos, hnd⟩ := hcond
    cases ha : argD e as with
    | none => rw [ha] at q; exact q.elim
    | some ds =>
      rw [ha] at q
      refine call_core hx l1 P1 hs hn hpos hnd ha ?_
      cases hF : F ds with
      | none => simp only [hF] at q; exact q.elim
      | some r =>
        obtain ⟨r, os⟩ := r
        cases r with
        | exc x =>
          simp only [hF] at q ⊢
          split at q
          · rename_i hos
            refine ⟨hos, fun G' H' cls dd M' m1 R X' => q G' H' cls dd (by rw [putAs_length]; exact l1) ?_ X'⟩
            have := Post.dropTail (A := σ ++ B.xs) (As := putAs e as os ++ B.ts) R (by simp [putAs_length]; omega)
            unfold Bs.At
            simpa [List.append_assoc] using this
          · exact q.elim
        | ret d =>
          simp only [hF] at q ⊢
          split at q
          · rename_i hos
            refine ⟨hos, fun G' H' v M' m1 _ R => q G' H' v (by rw [putAs_length]; exact l1) ?_⟩
            have := Post.dropMid (A := σ ++ B.xs) (As := putAs e as os ++ B.ts) R (by simp [putAs_length]; omega)
            unfold Bs.At Bs.push
            simpa [List.append_assoc] using this
          · exact q.elim
  · exact q.elim
/-- a def that raises nothing: any wish for the errors -/
theorem spV_noX {C : Ct} {ios : List Nat} {F : Fn} {vs : List V} {H : Hp} {Q : VK} {E E' : XK} (hX : ∀ ds x os, F ds ≠ some (.exc x, os)) (h : spV C ios F vs H Q E) : spV C ios F vs H Q E' := by
  obtain ⟨G, io, ds, P, q⟩ := h
  refine ⟨G, io, ds, P, ?_⟩
  cases hF : F ds with
  | none => rw [hF] at q; exact q
  | some r =>
    obtain ⟨r, os⟩ := r
    cases r with
    | exc x => exact absurd hF (hX ds x os)
    | ret d => rw [hF] at q; exact q
/-- the call of a def that raises nothing -/
theorem rd_call {F : Fn} {cios : List Nat} {fa : M (List AR)} {σ : L2.St} {H : Hp} {Q : VK} {E : XK} (hX : ∀ ds x os, F ds ≠ some (.exc x, os)) (h : rdE C W (eCall F cios fa) σ H Q) : rdA C W fa σ H fun vs H1 => spV C cios F (vs ++ []) H1 Q E := by
  obtain ⟨B, G, env, hl, P, o⟩ := rd_callX h
  exact ⟨B, G, env, hl, P, o.mono fun as e _ q G1 H1 vs l1 P1 hs hn => spV_noX hX (q G1 H1 vs l1 P1 hs hn)⟩
end
end VL
namespace VL
open PySem PySem.Spec PyProof.Rows L2
section
variable {C : Ct} {W : WX} {X : Cx} {ios : List Nat}
/-! ### a def of the top is called -/
theorem runF_noX {n np : Nat} {ios : List Nat} {b : M Fl} : ∀ ds x os, runF n np ios b ds ≠ some (.exc x, os) := fun ds x os h => by
  unfold runF at h
  split at h
  · unfold resF at h
    split at h
    · rename_i d e _
      cases q : outs ios e with
      | none => rw [q] at h; cases h
      | some os => rw [q] at h; cases h
    · rename_i e _
      cases q : outs ios e with
      | none => rw [q] at h; cases h
      | some os => rw [q] at h; cases h
    · cases h
  · cases h
theorem pe_f {CX : CXT} {F : Fn} {cios : List Nat} {k : Nat} {f : Addr} {fd : FuncData} {ps : List Str} {x : Str} {p pos : Pos} {e : Expr} {es : List Expr} {fa : M (List AR)} {E : XK} (FO : FnOk X.prog X.w X.K X.mg X.base CX k f fd ps (spV C cios F)) (hX : ∀ ds x os, F ds ≠ some (.exc x, os)) (hr : Room k X.A) (hg : Gl X x) (hm : X.mg x = some (.ref f)) (hk : PySem.W.keepIn X.K (.ref f) = true) (hb : Binds X.K fd ps []) (hx : Passes CX X E)
    (ha : PA X (e :: es) (rdA C W fa)) (hdb : (x == ("__debug__" : Str)) = false := by decide) (he : starEach (e :: es) X.env = (false, eval e X.env) :: starEach es X.env := by rfl) (hpl : (backTo pos (starEach es X.env)).any (·.1) = false := by rfl) :
    PE X (.Call (.Name x p) (e :: es) [] pos) (rdE C W (eCall F cios fa)) :=
  imE (pe_call FO hr hg hm hk hb .nil hx ha hdb he hpl) fun _ _ _ h => rd_call hX h

/-! ### a look at what may change: the answer a plain value, nothing moved -/
def fzO : Option D → Option D := fun o => o.map frz
theorem Post.fzAll {G0 H0 H : Hp} {io : List Addr} {σ : List (Option V)} : ∀ (n : Nat) (ds : List (Option D)) {G : Hp}, Post C G0 H0 io G H σ ds → ∃ G', Same G G' ∧ Post C G0 H0 io G' H σ ((ds.take n).map fzO ++ ds.drop n)
  | 0, ds, G, P => ⟨G, Same.refl _, by simpa using P⟩
  | n + 1, ds, G, P => by
    obtain ⟨G1, s1, P1⟩ := Post.fzAll n ds P
    by_cases hn : n < ds.length
    · have hd : ((ds.take n).map fzO ++ ds.drop n)[n]? = ds[n]? := by
        rw [List.getElem?_append_right (by simp; omega)]
        simp [Nat.min_eq_left (Nat.le_of_lt hn)]
      have hset : ∀ x : Option D, ((ds.take n).map fzO ++ ds.drop n).set n x = (ds.take n).map fzO ++ x :: ds.drop (n + 1) := fun x => by
        rw [List.set_append_right _ _ (by simp; omega)]
        simp [Nat.min_eq_left (Nat.le_of_lt hn)]
        rw [List.drop_eq_getElem_cons hn]; rfl
      have htk : (ds.take (n + 1)).map fzO ++ ds.drop (n + 1) = (ds.take n).map fzO ++ fzO ds[n] :: ds.drop (n + 1) := by
        rw [List.take_succ_eq_append_getElem hn, List.map_append, List.append_assoc]; rfl
      rw [htk]
      cases e : ds[n] with
      | none =>
        refine ⟨G1, s1, ?_⟩
        rw [List.drop_eq_getElem_cons hn, e] at P1
        exact P1
      | some d =>
        obtain ⟨G2, v, s2, _, _, P2⟩ := P1.freeze (i := n) (d := d) (by rw [hd, List.getElem?_eq_getElem hn, e])
        rw [hset] at P2
        exact ⟨G2, s1.trans s2, P2⟩
    · refine ⟨G1, s1, ?_⟩
      rw [List.take_of_length_le (by omega), List.drop_of_length_le (by omega)] at P1 ⊢
      exact P1
theorem Post.rebase {G0 H0 G H : Hp} {io : List Addr} {σ : List (Option V)} {ds : List (Option D)} (P : Post C G0 H0 io G H σ (ds.map fzO)) : Post C G H [] G H σ (ds.map fzO) := by
  obtain ⟨fpf, O, _⟩ := P.own
  refine ⟨Same.refl _, P.gh, fun _ _ h _ => h, fun _ h => h, fun _ _ _ h => h, fun _ => [], ⟨O.len, fun i d hd => ?_, fun _ => .nil, (fun _ _ _ h => nomatch h), (fun _ _ h => nomatch h), (fun _ _ h => nomatch h)⟩, (fun _ _ h => nomatch h)⟩
  obtain ⟨v, q1, q2⟩ := O.rep i d hd
  have : frz d = d := by
    rw [List.getElem?_map] at hd
    cases e : ds[i]? with
    | none => rw [e] at hd; cases hd
    | some x =>
      rw [e] at hd
      cases x with
      | none => cases hd
      | some y =>
        cases hd
        exact frz_frz y
  exact ⟨v, q1, (q2.f this).o⟩
def ePk (f : M D) : M D := fun env => (noEx (f (env.map fzO))).bind fun d _ => if scalar d then .ok d env else .no
theorem rd_pk {f : M D} {σ : L2.St} {H : Hp} {Q : VK} (h : rdE C W (ePk f) σ H Q) : rdE C W f σ H Q := by
  obtain ⟨B, G, env, hl, P, o⟩ := h
  have hx := at_len P hl
  unfold ePk at o
  obtain ⟨G1, s1, P1⟩ := Post.fzAll env.length env (P.dropTail (by omega))
  rw [List.take_length, List.drop_length, List.append_nil] at P1
  have P2 := P1.rebase
  cases hf : f (env.map fzO) with
  | no => rw [hf] at o; exact o.elim
  | ex x e => rw [hf] at o; exact o.elim
  | ok d e =>
    rw [hf] at o
    have o : Out C W B σ (if scalar d then .ok d env else .no) _ := o
    split at o
    · rename_i hsc
      refine ⟨⟨G1, H, [], [], []⟩, G1, env.map fzO, by simpa using hl, by simpa [Bs.At] using P2, ?_⟩
      rw [hf]
      intro G' H' v l P'
      have l : e.length = σ.length := l
      obtain ⟨fp, ro⟩ := at_last l P'
      have hs : Same H H' := fun a u q => P'.kept a u q (fun z => nomatch z)
      refine o G H' v hl ?_
      have := (Post.more P hs).push (ro.scal hsc G)
      unfold Bs.At Bs.push
      simpa [List.append_assoc] using this
    · exact o.elim
theorem pe_pk {e : Expr} {f : M D} (h : PE X e (rdE C W f)) : PE X e (rdE C W (ePk f)) := imE h fun _ _ _ q => rd_pk q
def tPk (f : M Bool) : M Bool := fun env => (noEx (f (env.map fzO))).bind fun b _ => .ok b env
theorem rd_tpk {f : M Bool} {σ : L2.St} {H : Hp} {Q : Bool → Hp → Prop} (h : rdT C W (tPk f) σ H Q) : rdT C W f σ H Q := by
  obtain ⟨B, G, env, hl, P, o⟩ := h
  have hx := at_len P hl
  unfold tPk at o
  obtain ⟨G1, s1, P1⟩ := Post.fzAll env.length env (P.dropTail (by omega))
  rw [List.take_length, List.drop_length, List.append_nil] at P1
  have P2 := P1.rebase
  cases hf : f (env.map fzO) with
  | no => rw [hf] at o; exact o.elim
  | ex x e => rw [hf] at o; exact o.elim
  | ok b e =>
    rw [hf] at o
    have o : Out C W B σ (.ok b env) _ := o
    refine ⟨⟨G1, H, [], [], []⟩, G1, env.map fzO, by simpa using hl, by simpa [Bs.At] using P2, ?_⟩
    rw [hf]
    intro G' H' l P'
    have hs : Same H H' := fun a u q => P'.kept a u q (fun z => nomatch z)
    exact o G H' hl (Post.more P hs)
theorem pt_pk {e : Expr} {f : M Bool} (h : PT X e (rdT C W f)) : PT X e (rdT C W (tPk f)) := imT h fun _ _ _ q => rd_tpk q

/-! ### a list of one's own, at a name -/
theorem Post.lstAt {G0 H0 G H : Hp} {io : List Addr} {σ : List (Option V)} {ds : List (Option D)} {i : Nat} {es : List D} (P : Post C G0 H0 io G H σ ds) (hi : ds[i]? = some (some (.olst es))) :
    ∃ G' a xs, Same G G' ∧ σ[i]? = some (some (.ref a)) ∧ H a = some (.lst xs) ∧ RepFs C G' (frzs es) xs ∧ ∀ es' xs', RepFs C G' es' xs' → Post C G0 H0 io G' (upd H a (.lst xs')) σ (ds.set i (some (.olst es'))) := by
  obtain ⟨fpf, O, hin⟩ := id P.own
  obtain ⟨v, hv, a, xs, f, rfl, ha, rs, ef⟩ := O.rep i _ hi
  have hlt : i < ds.length := (List.getElem?_eq_some_iff.mp hi).1
  have haf : a ∈ fpf i := by rw [ef]; exact List.mem_cons_self
  have nda : a ∉ f := (List.nodup_cons.mp (ef ▸ O.nd i)).1
  refine ⟨addF G H f, a, xs, addF_same P.gh, hv, ha, RepOs.frz _ _ _ rs _ (addF_same P.gh) fun b hb => addF_in hb, fun es' xs' r' => ?_⟩
  have inf : ∀ p, p ∈ f → p ∈ fpf i := fun p hp => by rw [ef]; exact List.mem_cons_of_mem _ hp
  refine P.re (fpf := fpf) (fpf' := fun j => if j = i then [a] else fpf j) hin (addF_same P.gh) ?_ (fun b o hb k => ?_) (fun b hb => ne_upd hb) (fun b hb k hg => ?_) ⟨by simpa using O.len, fun j d hd => ?_, fun j => ?_, fun j j' p h1 h2 => ?_, fun j p h1 => ?_, fun j p h1 => ?_⟩ fun j p h1 => ?_
  · intro b o hb
    have hb' := addF_le P.gh b o hb
    have : b ≠ a := fun z => by
      rw [z, addF_out nda, O.gn i a haf] at hb
      cases hb
    rw [upd_ne this]; exact hb'
  · rw [upd_ne fun z => k i (by rw [z]; exact haf)]; exact hb
  · rw [addF_out fun z => k i (inf b z)]; exact hg
  · by_cases e : j = i
    · subst e
      rw [List.getElem?_set_self hlt] at hd
      cases hd
      refine ⟨.ref a, hv, ?_⟩
      simp only [if_true]
      exact ⟨a, xs', [], rfl, upd_same, RepFs.o r', rfl⟩
    · rw [List.getElem?_set_ne (Ne.symm e)] at hd
      obtain ⟨v', q1, q2⟩ := O.rep j d hd
      refine ⟨v', q1, ?_⟩
      simp only [e, if_false]
      refine RepO.mono (addF_same P.gh) _ _ _ (fun b hb => upd_ne fun z => ?_) q2
      exact e (O.dj j i a (z ▸ hb) haf)
  · (try dsimp only)
    split
    · simp
    · exact O.nd j
  · (try dsimp only at h1 h2)
    split at h1 <;> split at h2
    · omega
    · rw [List.mem_singleton.mp h1] at h2
      have := O.dj _ _ _ haf h2
      omega
    · rw [List.mem_singleton.mp h2] at h1
      have := O.dj _ _ _ h1 haf
      omega
    · exact O.dj j j' p h1 h2
  · (try dsimp only at h1)
    split at h1
    · rw [List.mem_singleton.mp h1, addF_out nda]; exact O.gn i a haf
    · rename_i e
      rw [addF_out fun z => e (O.dj j i p h1 (inf p z))]; exact O.gn j p h1
  · (try dsimp only at h1)
    refine ne_upd ?_
    split at h1
    · rw [List.mem_singleton.mp h1]; exact O.hp i a haf
    · exact O.hp j p h1
  · (try dsimp only at h1)
    split at h1
    · rw [List.mem_singleton.mp h1]; exact .inl ⟨i, haf⟩
    · exact .inl ⟨j, h1⟩
/-- x.m(..) of a list x of one's own: g gives its answer and its new items, of its items and the arguments, all shared -/
def eMt (i : Nat) (g : List D → List D → Option (D × List D)) (fa : M (List AR)) : M D := fun env => match env[i]? with
  | some (some (.olst _)) => (fa env).bind fun as e => match e[i]? with
    | some (some (.olst es)) => (match (vals as).bind fun ds => g (frzs es) (frzs ds) with
      | some (r, es') => .ok r (e.set i (some (.olst es')))
      | none => .no)
    | _ => .no
  | _ => .no
/-- what such a method does: a list's items xs, the arguments vs -/
def MtOk (C : Ct) (r : V → List V → Hp → VK → Prop) (g : List D → List D → Option (D × List D)) : Prop := ∀ (G H : Hp) (a : Addr) (xs vs : List V) (es ds : List D) (d : D) (es' : List D) (Q : VK), Same G H → G a = none → H a = some (.lst xs) → RepFs C G es xs → RepFs C G ds vs → g es ds = some (d, es') →
  (∀ v xs', RepF C G d v → RepFs C G es' xs' → Q v (upd H a (.lst xs'))) → r (.ref a) vs H Q
theorem rd_mt {i : Nat} {r : V → List V → Hp → VK → Prop} {g : List D → List D → Option (D × List D)} {fa : M (List AR)} {K : PySem.W.Frag} (hm : MtOk C r g) {σ : L2.St} {H : Hp} {Q : VK} (h : rdE C W (eMt i g fa) σ H Q) : tBM K "list" r (tVar i) (rdA C W fa) σ H Q := by
  obtain ⟨B, G, env, hl, P, o⟩ := h
  have hx := at_len P hl
  unfold eMt at o
  split at o
  · rename_i es0 h0
    have hi := (List.getElem?_eq_some_iff.mp h0).1
    obtain ⟨_, a, xs0, _, hv, ha0, _, _⟩ := Post.lstAt P (i := i) (es := es0) (by rw [List.getElem?_append_left hi]; exact h0)
    rw [List.getElem?_append_left (by omega)] at hv
    refine ⟨.ref a, hv, .inl ⟨rfl, xs0, .of ha0⟩, B, G, env, hl, P, o.bind.mono fun as e _ q G1 H1 vs l1 P1 hs hn => ?_⟩
    split at q
    · rename_i es h1
      have hi1 := (List.getElem?_eq_some_iff.mp h1).1
      cases hva : vals as with
      | none => simp only [hva, Option.bind_none] at q; exact q.elim
      | some ds =>
        simp only [hva, Option.bind_some] at q
        cases hg : g (frzs es) (frzs ds) with
        | none => simp only [hg] at q; exact q.elim
        | some re =>
          obtain ⟨d, es'⟩ := re
          simp only [hg] at q
          have P2' : Post C B.G0 B.H0 B.io G1 H1 ((σ ++ B.xs) ++ vs.map some) ((e ++ B.ts) ++ ds.map some) := by
            unfold Bs.At Bs.pushs at P1
            rw [vals_map hva] at P1
            simpa [List.append_assoc] using P1
          obtain ⟨G3, s3, P3, r3⟩ := Post.fzTail _ _ _ _ (by simp; omega) P2'
          obtain ⟨G4, a', xs, s4, hv', ha, rx, k⟩ := Post.lstAt P3 (i := i) (es := es) (by rw [List.append_assoc, List.getElem?_append_left hi1]; exact h1)
          rw [List.append_assoc, List.getElem?_append_left (by omega), hv] at hv'
          cases hv'
          have hgn : G4 a = none := by
            obtain ⟨fpf, O, _⟩ := (k [] [] rfl).own
            obtain ⟨v, z1, a2, xs2, f2, z2, z3, z4, z5⟩ := O.rep i (.olst []) (by rw [List.getElem?_set_self (by simp; omega)])
            rw [List.append_assoc, List.getElem?_append_left (by omega), hv] at z1
            cases z1
            cases z2
            exact O.gn i _ (by rw [z5]; exact List.mem_cons_self)
          have gh4 : Same G4 H1 := fun b u hb => by
            have q1 := (k [] [] rfl).gh b u hb
            have : b ≠ a := fun z => by rw [z, hgn] at hb; cases hb
            rwa [upd_ne this] at q1
          refine hm G4 H1 a xs vs (frzs es) (frzs ds) d es' Q gh4 hgn ha rx (RepFs.mono s4 _ _ r3) hg fun v xs' rd rx' => q G4 _ v (by simpa using l1) ?_
          have P5 := (k es' xs' rx').push rd
          rw [List.set_append_left _ _ (by simp; omega), List.set_append_left _ _ hi1] at P5
          have P6 : Post C B.G0 B.H0 B.io G4 (upd H1 a (.lst xs')) ((σ ++ B.xs) ++ vs.map some ++ [some v]) ((e.set i (some (.olst es')) ++ B.ts) ++ (frzs ds).map some ++ [some d]) := by simpa [List.append_assoc] using P5
          have := P6.dropMid (by simp; omega)
          unfold Bs.At Bs.push
          simpa [List.append_assoc] using this
    · exact q.elim
  · exact o.elim
def mApp : List D → List D → Option (D × List D)
  | es, [d] => if es.length < 100000 then some (.non, es ++ [d]) else none
  | _, _ => none
theorem RepFs.snoc {G : Hp} : ∀ {es : List D} {xs : List V} {d : D} {v : V}, RepFs C G es xs → RepF C G d v → RepFs C G (es ++ [d]) (xs ++ [v])
  | [], xs, d, v, h, r => by
    rw [show xs = [] from h]
    exact ⟨v, [], rfl, r, rfl⟩
  | e :: es, xs, d, v, h, r => by
    obtain ⟨x, xr, rfl, h1, h2⟩ := h
    exact ⟨x, xr ++ [v], rfl, h1, RepFs.snoc h2 r⟩
theorem lt1e5 {n : Nat} (h : n < 100000) : n < sizeLine := Nat.lt_of_lt_of_le h (by decide)
theorem le1e5 {n : Nat} (h : n ≤ 100000) : n ≤ sizeLine := Nat.le_trans h (by decide)
theorem ok_app : MtOk C rAppend mApp := fun G H a xs vs es ds d es' Q gh ga ha rx rv hg k => by
  unfold mApp at hg
  split at hg
  · split at hg
    · rename_i hz
      cases hg
      obtain ⟨v, r, rfl, h1, h2⟩ := rv
      cases (show r = [] from h2)
      exact ⟨a, xs, v, rfl, rfl, ha, lt1e5 (by rw [rx.length]; exact hz), k .non _ rfl (rx.snoc h1)⟩
    · cases hg
  · cases hg
theorem pe_app {x : Str} {pos apos cpos : Pos} {e : Expr} {fa : M (List AR)} (i : Nat) (ho : PE X (.Name x pos) (tVar i)) (ha : PA X [e] (rdA C W fa))
    (hbase : attributeBase (.Name x pos) "append" X.env (eval (.Name x pos) X.env) = eval (.Name x pos) X.env := by rfl)
    (hfew : ((backTo cpos (starEach [e] X.env)).all (fun x => !x.1) && (backToKw cpos (keywordEach [] X.env)).all (fun x => x.1.isSome)
      && decide ([e].length + ([] : List Keyword).length + (if ([] : List Keyword).isEmpty then 0 else 1) < 30)) = true := by rfl)
    (hline : (apos.endLine == cpos.line) = true := by rfl) (hs : starEach [e] X.env = (false, eval e X.env) :: starEach [] X.env := by rfl) (hplain : (backTo cpos (starEach [] X.env)).any (·.1) = false := by rfl) :
    PE X (.Call (.Attribute (.Name x pos) "append" apos) [e] [] cpos) (rdE C W (eMt i mApp fa)) :=
  imE (pe_bm PySem.F.plainAttrs_list PySem.F.slot_list_append PySem.F.type_list_append mt_append ho ha hbase hfew hline hs hplain) fun _ _ _ h => rd_mt ok_app h
/-- the place that an index means -/
def mPopAt : List D → List D → Option (D × List D)
  | es, [.int i] => if es.length < 100000 then (match ixN es.length i with
    | some j => (es[j]?).map fun d => (d, es.eraseIdx j)
    | none => none) else none
  | _, _ => none
theorem RepFs.erase {G : Hp} : ∀ {es : List D} {xs : List V} (j : Nat), RepFs C G es xs → RepFs C G (es.eraseIdx j) (xs.eraseIdx j)
  | [], xs, j, h => by rw [show xs = [] from h]; rfl
  | e :: es, xs, 0, h => by
    obtain ⟨x, xr, rfl, h1, h2⟩ := h
    exact h2
  | e :: es, xs, j + 1, h => by
    obtain ⟨x, xr, rfl, h1, h2⟩ := h
    exact ⟨x, xr.eraseIdx j, rfl, h1, RepFs.erase j h2⟩
theorem ok_popAt : MtOk C rPopAt mPopAt := fun G H a xs vs es ds d es' Q gh ga ha rx rv hg k => by
  unfold mPopAt at hg
  split at hg
  · rename_i i
    split at hg
    · rename_i hz
      split at hg
      · rename_i j hj
        cases hd : es[j]? with
        | none => rw [hd] at hg; cases hg
        | some d' =>
          rw [hd] at hg
          cases hg
          obtain ⟨v, r, rfl, h1, h2⟩ := rv
          cases (show r = [] from h2)
          cases (show v = .int i from h1)
          obtain ⟨y, hy, ry⟩ := rx.get hd
          have hl := rx.length
          rw [← hl] at hj
          obtain ⟨q1, q2, q3, q4⟩ := ixN_seq hj
          exact ⟨a, xs, i, j, y, rfl, rfl, ha, by omega, by omega, q1, hy, k y _ ry (rx.erase j)⟩
      · cases hg
    · cases hg
  · cases hg
theorem pe_popAt {x : Str} {pos apos cpos : Pos} {e : Expr} {fa : M (List AR)} (i : Nat) (ho : PE X (.Name x pos) (tVar i)) (ha : PA X [e] (rdA C W fa))
    (hbase : attributeBase (.Name x pos) "pop" X.env (eval (.Name x pos) X.env) = eval (.Name x pos) X.env := by rfl)
    (hfew : ((backTo cpos (starEach [e] X.env)).all (fun x => !x.1) && (backToKw cpos (keywordEach [] X.env)).all (fun x => x.1.isSome)
      && decide ([e].length + ([] : List Keyword).length + (if ([] : List Keyword).isEmpty then 0 else 1) < 30)) = true := by rfl)
    (hline : (apos.endLine == cpos.line) = true := by rfl) (hs : starEach [e] X.env = (false, eval e X.env) :: starEach [] X.env := by rfl) (hplain : (backTo cpos (starEach [] X.env)).any (·.1) = false := by rfl) :
    PE X (.Call (.Attribute (.Name x pos) "pop" apos) [e] [] cpos) (rdE C W (eMt i mPopAt fa)) :=
  imE (pe_bm PySem.F.plainAttrs_list PySem.F.slot_list_pop PySem.F.type_list_pop mt_popAt ho ha hbase hfew hline hs hplain) fun _ _ _ h => rd_mt ok_popAt h
/-- x[e] = y, x a list of one's own at a name -/
def sSetIx (i : Nat) (fi fv : M D) : M Fl := fun env => (fv env).bind fun v e1 => match e1[i]? with
  | some (some (.olst _)) => (fi e1).bind fun k e2 => (match frz k, e2[i]? with
    | .int k, some (some (.olst es)) => (match ixN es.length k with
      | some j => .ok .nx (e2.set i (some (.olst ((frzs es).set j (frz v)))))
      | none => .no)
    | _, _ => .no)
  | _ => .no
theorem RepFs.set {G : Hp} : ∀ {es : List D} {xs : List V} {d : D} {v : V} (j : Nat), RepFs C G es xs → RepF C G d v → RepFs C G (es.set j d) (xs.set j v)
  | [], xs, d, v, j, h, r => by rw [show xs = [] from h]; rfl
  | e :: es, xs, d, v, 0, h, r => by
    obtain ⟨x, xr, rfl, h1, h2⟩ := h
    exact ⟨v, xr, rfl, r, h2⟩
  | e :: es, xs, d, v, j + 1, h, r => by
    obtain ⟨x, xr, rfl, h1, h2⟩ := h
    exact ⟨x, xr.set j v, rfl, h1, RepFs.set j h2 r⟩
theorem frzs_length : ∀ es : List D, (frzs es).length = es.length
  | [] => rfl
  | e :: es => by rw [frzs, List.length_cons, List.length_cons, frzs_length es]
theorem rd_setIx {i : Nat} {fi fv : M D} {D' : Ends} {σ : L2.St} {H : Hp} (h : rdS C W ios (sSetIx i fi fv) D' σ H) : tAsg (rdE C W fv) (gSub (tVar i) (rdE C W fi) rSetL) D' σ H := by
  obtain ⟨B, G, env, hl, P, o⟩ := h
  have hx := at_len P hl
  refine ⟨B, G, env, hl, P, (OutS.of o).mono fun v e1 _ q G1 H1 w l1 P1 => ?_⟩
  split at q
  · rename_i es0 h0
    have hi := (List.getElem?_eq_some_iff.mp h0).1
    obtain ⟨_, a, xs0, _, hv, ha0, _, _⟩ := Post.lstAt P1 (i := i) (es := es0) (by rw [List.getElem?_append_left hi]; exact h0)
    rw [List.getElem?_append_left (by omega)] at hv
    refine ⟨.ref a, hv, B.push w v, G1, e1, l1, P1, ?_⟩
    have q2 : Out C W (B.push w v) σ (fi e1) _ := Out.under (v := w) (d := some v) hx (OutS.of q)
    refine q2.mono fun k e2 _ q3 G2 H2 u l2 P2 => ?_
    split at q3
    · rename_i k' es hk h1
      have hi1 := (List.getElem?_eq_some_iff.mp h1).1
      split at q3
      · rename_i j hj
        have P2' : Post C B.G0 B.H0 B.io G2 H2 ((σ ++ B.xs) ++ [w, u].map some) ((e2 ++ B.ts) ++ [v, k].map some) := by
          unfold Bs.At Bs.push at P2
          simpa [List.append_assoc] using P2
        obtain ⟨G3, s3, P3, r3⟩ := Post.fzTail _ _ _ _ (by simp; omega) P2'
        obtain ⟨x, r, e3, ra, y, r', e4, rb, _⟩ := r3
        cases e3
        cases e4
        obtain ⟨G4, a', xs, s4, hv', ha, rx, kk⟩ := Post.lstAt P3 (i := i) (es := es) (by rw [List.append_assoc, List.getElem?_append_left hi1]; exact h1)
        rw [List.append_assoc, List.getElem?_append_left (by omega), hv] at hv'
        cases hv'
        rw [hk] at rb
        cases (show u = .int k' from rb)
        refine ⟨a, xs, k', j, rfl, rfl, ha, by rw [rx.length, frzs_length]; exact hj, ?_⟩
        have P5 := kk _ _ (rx.set j (RepF.mono s4 _ _ ra))
        rw [List.set_append_left _ _ (by simp; omega), List.set_append_left _ _ hi1] at P5
        exact q3 G4 _ σ rfl (by simpa using l2) (fun _ _ => rfl) (P5.dropTail (by simp; omega))
      · exact q3.elim
    · exact q3.elim
  · exact q.elim
theorem s_setIx {x : Str} {pos spos apos : Pos} {e ix : Expr} {fi fv : M D} (i : Nat) (ho : PE X (.Name x pos) (tVar i)) (hi : PE X ix (rdE C W fi)) (he : PE X e (rdE C W fv))
    (ha : ∀ v, assign (.Subscript (.Name x pos) ix spos) X.env v = (do
      let ov ← holding [v] (eval (.Name x pos) X.env)
      let iv ← holding [v, ov] (eval ix X.env)
      standAt spos
      holding [v, ov, iv] (setItem ov iv v)
      release [v, ov, iv] []) := by intro _; rfl)
    (hs : swapsWithSole [.Subscript (.Name x pos) ix spos] e apos.line X.env = pure false := by rfl) (hw : swappedStores [.Subscript (.Name x pos) ix spos] e X.env = pure none := by rfl)
    (h1 : (assignEach [.Subscript (.Name x pos) ix spos] X.env).map (·.2) = [assign (.Subscript (.Name x pos) ix spos) X.env] := by rfl) : PS X (.Assign [.Subscript (.Name x pos) ix spos] e apos) (rdS C W ios (sSetIx i fi fv)) :=
  imS (ps_asg he (pg_sub ho hi set_list ha) hs hw h1) fun _ _ _ h => rd_setIx h
end
end VL
namespace VL
open PySem PySem.Spec PyProof.Rows L2

/-! ### what operators give -/
def alt (g h : D → D → Option D) : D → D → Option D := fun a b => match g a b with
  | some d => some d
  | none => h a b
def i2 (c : Int → Int → Bool) (f : Int → Int → D) : D → D → Option D
  | .int i, .int j => if c i j then some (f i j) else none
  | _, _ => none
def s2 (c : Str → Str → Bool) (f : Str → Str → D) : D → D → Option D
  | .str i, .str j => if c i j then some (f i j) else none
  | _, _ => none
section
variable {C : Ct} {W : WX} {X : Cx} {ios : List Nat}
theorem opAlt {f : Value → Value → Sem Value} {g h : D → D → Option D} (h1 : OpR X f (rV2 C g)) (h2 : OpR X f (rV2 C h)) : OpR X f (rV2 C (alt g h)) := by
  intro pins s σ H x y v u Q I rx ry q
  obtain ⟨G, a, b, d, gh, ra, rb, hg, k⟩ := q
  unfold alt at hg
  split at hg
  · rename_i d' hd
    cases hg
    exact h1 pins s σ H x y v u Q I rx ry ⟨G, a, b, d, gh, ra, rb, hd, k⟩
  · exact h2 pins s σ H x y v u Q I rx ry ⟨G, a, b, d, gh, ra, rb, hg, k⟩
theorem i2_inv {c : Int → Int → Bool} {f : Int → Int → D} {a b d : D} (h : i2 c f a b = some d) : ∃ i j, a = .int i ∧ b = .int j ∧ c i j = true ∧ d = f i j := by
  unfold i2 at h
  split at h
  · split at h
    · cases h; exact ⟨_, _, rfl, rfl, ‹_›, rfl⟩
    · cases h
  · cases h
theorem s2_inv {c : Str → Str → Bool} {f : Str → Str → D} {a b d : D} (h : s2 c f a b = some d) : ∃ i j, a = .str i ∧ b = .str j ∧ c i j = true ∧ d = f i j := by
  unfold s2 at h
  split at h
  · split at h
    · cases h; exact ⟨_, _, rfl, rfl, ‹_›, rfl⟩
    · cases h
  · cases h
/-- ints in, an int out -/
theorem opI2 {f : Value → Value → Sem Value} {Cc : Int → Int → Prop} {g : Int → Int → Int} {c : Int → Int → Bool} (h : OpR X f (rI Cc fun i j => .int (g i j))) (hc : ∀ i j, c i j = true → Cc i j) : OpR X f (rV2 C (i2 c fun i j => .int (g i j))) := by
  intro pins s σ H x y v u Q I rx ry q
  obtain ⟨G, a, b, d, gh, ra, rb, hg, k⟩ := q
  obtain ⟨i, j, rfl, rfl, hcc, rfl⟩ := i2_inv hg
  cases (show x = .int i from ra)
  cases (show y = .int j from rb)
  exact h pins s σ H _ _ v u Q I rx ry ⟨i, j, rfl, rfl, hc i j hcc, k G H _ [] (Grow.refl gh) ⟨rfl, rfl⟩⟩
theorem opI2' {f : Value → Value → Sem Value} {g : Int → Int → Int} (h : OpR X f (rI0 fun i j => .int (g i j))) : OpR X f (rV2 C (i2 (fun _ _ => true) fun i j => .int (g i j))) := by
  intro pins s σ H x y v u Q I rx ry q
  obtain ⟨G, a, b, d, gh, ra, rb, hg, k⟩ := q
  obtain ⟨i, j, rfl, rfl, hcc, rfl⟩ := i2_inv hg
  cases (show x = .int i from ra)
  cases (show y = .int j from rb)
  exact h pins s σ H _ _ v u Q I rx ry ⟨i, j, rfl, rfl, k G H _ [] (Grow.refl gh) ⟨rfl, rfl⟩⟩
theorem opB2 {f : Value → Value → Sem Value} {g : Int → Int → Bool} (h : OpR X f (rI0 fun i j => .bl (g i j))) : OpR X f (rV2 C (i2 (fun _ _ => true) fun i j => .bl (g i j))) := by
  intro pins s σ H x y v u Q I rx ry q
  obtain ⟨G, a, b, d, gh, ra, rb, hg, k⟩ := q
  obtain ⟨i, j, rfl, rfl, hcc, rfl⟩ := i2_inv hg
  cases (show x = .int i from ra)
  cases (show y = .int j from rb)
  exact h pins s σ H _ _ v u Q I rx ry ⟨i, j, rfl, rfl, k G H _ [] (Grow.refl gh) ⟨rfl, rfl⟩⟩
theorem cMul_of {i j : Int} (h : (decide (-(2 ^ 64) < i) && decide (i < 2 ^ 64) || decide (-(2 ^ 64) < j) && decide (j < 2 ^ 64)) = true) : CMul i j := by
  simpa [CMul] using h
def mulC (i j : Int) : Bool := decide (-(2 ^ 64) < i) && decide (i < 2 ^ 64) || decide (-(2 ^ 64) < j) && decide (j < 2 ^ 64)
def divC (_ j : Int) : Bool := decide (0 < j) && decide (j < 2 ^ 200)
theorem divC_of {i j : Int} (h : divC i j = true) : 0 < j ∧ j.natAbs.log2 < 9000 := by
  unfold divC at h
  rw [Bool.and_eq_true, decide_eq_true_eq, decide_eq_true_eq] at h
  refine ⟨h.1, ?_⟩
  have h2 : j.natAbs < 2 ^ 200 := by omega
  exact Nat.lt_of_lt_of_le (PySem.Flt.log2_lt_of (by decide) h2) (by decide)
def powC (i j : Int) : Bool := decide (0 ≤ j) && decide (j ≤ 1000000) && decide (-(2 ^ 64) < i) && decide (i < 2 ^ 64)
theorem powC_of {i j : Int} (h : powC i j = true) : CPow i j := by
  unfold powC at h
  simp only [Bool.and_eq_true, decide_eq_true_eq] at h
  exact ⟨h.1.1.1, h.1.1.2, by omega⟩
/-! sequences: + -/
def catL : D → D → Option D
  | .lst a, .lst b => if a.length + b.length ≤ 100000 then some (.olst (a ++ b)) else none
  | _, _ => none
def catT : D → D → Option D
  | .tup a, .tup b => if a.length + b.length ≤ 100000 ∧ a ≠ [] ∧ b ≠ [] then some (.tup (a ++ b)) else none
  | _, _ => none
theorem RepFs.append {G : Hp} : ∀ {es fs : List D} {xs ys : List V}, RepFs C G es xs → RepFs C G fs ys → RepFs C G (es ++ fs) (xs ++ ys)
  | [], fs, xs, ys, h, r => by rw [show xs = [] from h]; exact r
  | e :: es, fs, xs, ys, h, r => by
    obtain ⟨x, xr, rfl, h1, h2⟩ := h
    exact ⟨x, xr ++ ys, rfl, h1, RepFs.append h2 r⟩
theorem op_catL : OpR X (binaryOp .Add) (rV2 C catL) := by
  intro pins s σ H x y v u Q I rx ry q
  obtain ⟨G, a, b, d, gh, ra, rb, hg, k⟩ := q
  unfold catL at hg
  split at hg
  · split at hg
    · rename_i hz
      cases hg
      obtain ⟨p, xs, rfl, hp, rs⟩ := ra
      obtain ⟨q, ys, rfl, hq, ts⟩ := rb
      refine op_cat pins s σ H _ _ v u Q I rx ry ⟨p, q, xs, ys, rfl, rfl, gh _ _ hp, gh _ _ hq, le1e5 (by rw [rs.length, ts.length]; exact hz), fun l hl => ?_⟩
      exact k G _ _ [l] (Grow.own1 gh hl) ⟨l, xs ++ ys, [], rfl, upd_same, (rs.append ts).o, rfl⟩
    · cases hg
  · cases hg
theorem op_catTM (hK : X.K = C.K) : OpR X (binaryOp .Add) (rV2 C catT) := by
  intro pins s σ H x y v u Q I rx ry q
  obtain ⟨G, a, b, d, gh, ra, rb, hg, k⟩ := q
  unfold catT at hg
  split at hg
  · split at hg
    · rename_i hz
      obtain ⟨hz, hn, hm⟩ := hz
      cases hg
      obtain ⟨p, xs, rfl, hp, rs⟩ := ra
      obtain ⟨q, ys, rfl, hq, ts⟩ := rb
      refine op_catT pins s σ H _ _ v u Q I rx ry ⟨p, q, xs, ys, rfl, rfl, hK ▸ seqT gh hp, hK ▸ seqT gh hq, fun e => hn ?_, le1e5 (by rw [rs.length, ts.length]; exact hz), fun e => absurd ?_ hm, fun _ l hl => ?_⟩
      · have := rs.length
        rw [e] at this
        exact List.eq_nil_of_length_eq_zero this.symm
      · have := ts.length
        rw [e] at this
        exact List.eq_nil_of_length_eq_zero this.symm
      · exact k _ _ _ [] (Grow.shared gh hl) ⟨⟨l, xs ++ ys, rfl, .inl (.inl upd_same), RepFs.mono (Same.new (same_none gh hl)) _ _ (rs.append ts)⟩, rfl⟩
    · cases hg
  · cases hg
def catS : D → D → Option D := s2 (fun i j => decide (i.length + j.length ≤ 100000)) fun i j => .str (i ++ j)
theorem op_catS : OpR X (binaryOp .Add) (rV2 C catS) := by
  intro pins s σ H x y v u Q I rx ry q
  obtain ⟨G, a, b, d, gh, ra, rb, hg, k⟩ := q
  obtain ⟨i, j, rfl, rfl, hz, rfl⟩ := s2_inv hg
  cases (show x = .str i from ra)
  cases (show y = .str j from rb)
  exact op_add_str pins s σ H _ _ v u Q I rx ry ⟨i, j, rfl, rfl, le1e5 (of_decide_eq_true hz), k G H _ [] (Grow.refl gh) ⟨rfl, rfl⟩⟩
def gAdd : D → D → Option D := alt (i2 (fun _ _ => true) fun i j => .int (i + j)) (alt catS (alt catL catT))
theorem o_add (hK : X.K = C.K) : OpR X (binaryOp .Add) (rV2 C gAdd) := opAlt (opI2' op_add) (opAlt op_catS (opAlt op_catL (op_catTM hK)))
def gSub : D → D → Option D := i2 (fun _ _ => true) fun i j => .int (i - j)
theorem o_sub : OpR X (binaryOp .Sub) (rV2 C VL.gSub) := opI2' op_sub
/-- a text some times -/
def mulS : D → D → Option D
  | .str x, .int n => if 0 ≤ n ∧ n ≤ 1000 ∧ x.length ≤ 1000 then some (.str (Txt.mul x n)) else none
  | _, _ => none
theorem op_mulS : OpR X (binaryOp .Mult) (rV2 C mulS) := by
  intro pins s σ H x y v u Q I rx ry q
  obtain ⟨G, a, b, d, gh, ra, rb, hg, k⟩ := q
  unfold mulS at hg
  split at hg
  · rename_i z n
    split at hg
    · rename_i hz
      obtain ⟨h0, h1, h2⟩ := hz
      cases hg
      cases (show x = .str z from ra)
      cases (show y = .int n from rb)
      obtain ⟨t, rfl⟩ := rx
      obtain ⟨t', rfl⟩ := ry
      have hm : z.length * n.toNat ≤ 1000 * 1000 := Nat.mul_le_mul h2 (by omega)
      have hs : sizeLine = 16777216 := sizeLine_eq
      refine PySem.SB.mul ⟨?_, fun h1 _ hgt => ?_, fun _ _ => ?_⟩ fun t' k' => ⟨.str _, H, I.tok _, ⟨_, rfl⟩, k G H _ [] (Grow.refl gh) ⟨rfl, rfl⟩⟩
      · rw [decide_eq_false (by omega), decide_eq_false (by omega)] <;> rfl
      · have hp : (0 : Int) < n := by omega
        have h3 : (z.length : Int) * n ≤ 1000 * n := Int.mul_le_mul_of_nonneg_right (by omega) (by omega)
        have h4 : (2 ^ 63 - 1) / n < (z.length : Int) := hgt
        rw [Int.ediv_lt_iff_lt_mul hp] at h4
        omega
      · show decide (z.length * n.toNat > sizeLine) = false
        exact decide_eq_false (by omega)
    · cases hg
  · cases hg
/-- a list some times -/
def mulL : D → D → Option D
  | .lst xs, .int n => if 0 ≤ n ∧ n ≤ 1000 ∧ xs.length ≤ 1000 then some (.olst (List.replicate n.toNat xs).flatten) else none
  | _, _ => none
theorem RepFs.rep {G : Hp} {es : List D} {xs : List V} (h : RepFs C G es xs) : ∀ n : Nat, RepFs C G (List.replicate n es).flatten (List.replicate n xs).flatten
  | 0 => rfl
  | n + 1 => by
    rw [List.replicate_succ, List.replicate_succ, List.flatten_cons, List.flatten_cons]
    exact h.append (RepFs.rep h n)
theorem op_mulL : OpR X (binaryOp .Mult) (rV2 C mulL) := by
  intro pins s σ H x y v u Q I rx ry q
  obtain ⟨G, a, b, d, gh, ra, rb, hg, k⟩ := q
  unfold mulL at hg
  split at hg
  · rename_i zs n
    split at hg
    · rename_i hz
      obtain ⟨h0, h1, h2⟩ := hz
      cases hg
      obtain ⟨p, xs, rfl, hp, rs⟩ := ra
      cases (show y = .int n from rb)
      have hm : xs.length * n.toNat ≤ 1000 * 1000 := Nat.mul_le_mul (by rw [rs.length]; exact h2) (by omega)
      refine op_rep pins s σ H _ _ v u Q I rx ry ⟨p, n, xs, rfl, rfl, gh _ _ hp, by omega, by omega, Nat.le_trans hm (by decide), fun l hl => ?_⟩
      exact k G _ _ [l] (Grow.own1 gh hl) ⟨l, _, [], rfl, upd_same, (rs.rep _).o, rfl⟩
    · cases hg
  · cases hg
def gMul : D → D → Option D := alt (i2 mulC fun i j => .int (i * j)) (alt mulS mulL)
theorem o_mul : OpR X (binaryOp .Mult) (rV2 C gMul) := opAlt (opI2 op_mul fun _ _ h => cMul_of h) (opAlt op_mulS op_mulL)
def gDiv : D → D → Option D := i2 divC fun i j => .int (i / j)
theorem o_div : OpR X (binaryOp .FloorDiv) (rV2 C gDiv) := opI2 op_fdivW fun _ _ h => divC_of h
def gMod : D → D → Option D := i2 (fun _ j => decide (0 < j)) fun i j => .int (i % j)
theorem o_mod : OpR X (binaryOp .Mod) (rV2 C gMod) := opI2 op_mod fun _ _ h => of_decide_eq_true h
def gPow : D → D → Option D := i2 powC fun i j => .int (i ^ j.toNat)
theorem o_pow : OpR X (binaryOp .Pow) (rV2 C gPow) := opI2 op_pow fun _ _ h => powC_of h
def gShl : D → D → Option D := i2 powC fun i j => .int (i * 2 ^ j.toNat)
theorem o_shl : OpR X (binaryOp .LShift) (rV2 C gShl) := opI2 op_shl fun _ _ h => powC_of h
def gShr : D → D → Option D := i2 (fun _ j => decide (0 ≤ j)) fun i j => .int (i / 2 ^ j.toNat)
theorem o_shr : OpR X (binaryOp .RShift) (rV2 C gShr) := opI2 op_shr fun _ _ h => of_decide_eq_true h
def gBand : D → D → Option D := i2 (fun _ _ => true) fun i j => .int (Builtin.bitAnd i j)
theorem o_and : OpR X (binaryOp .BitAnd) (rV2 C gBand) := opI2' op_and
def gBor : D → D → Option D := i2 (fun _ _ => true) fun i j => .int (Builtin.bitOr i j)
theorem o_or : OpR X (binaryOp .BitOr) (rV2 C gBor) := opI2' op_or
def gBxor : D → D → Option D := i2 (fun _ _ => true) fun i j => .int (Builtin.bitXor i j)
theorem o_xor : OpR X (binaryOp .BitXor) (rV2 C gBxor) := opI2' op_xor
def gNeg : D → Option D
  | .int i => some (.int (-i))
  | _ => none
theorem o_neg : UnR X (unaryOp .USub) (rV1 C gNeg) := by
  intro pins s σ H x v Q I rx q
  obtain ⟨G, a, d, gh, ra, hg, k⟩ := q
  unfold gNeg at hg
  split at hg
  · cases hg
    cases (show x = _ from ra)
    exact un_neg pins s σ H _ v Q I rx ⟨_, rfl, k G H _ [] (Grow.refl gh) ⟨rfl, rfl⟩⟩
  · cases hg

/-! ### comparisons -/
def gLt : D → D → Option D := i2 (fun _ _ => true) fun i j => .bl (decide (i < j))
theorem o_lt : OpR X (compareOp .Lt) (rV2 C gLt) := opB2 op_lt
def gLe : D → D → Option D := i2 (fun _ _ => true) fun i j => .bl (decide (i ≤ j))
theorem o_le : OpR X (compareOp .LtE) (rV2 C gLe) := opB2 op_le
def gGt : D → D → Option D := i2 (fun _ _ => true) fun i j => .bl (decide (j < i))
theorem o_gt : OpR X (compareOp .Gt) (rV2 C gGt) := opB2 op_gt
def gGe : D → D → Option D := i2 (fun _ _ => true) fun i j => .bl (decide (j ≤ i))
theorem o_ge : OpR X (compareOp .GtE) (rV2 C gGe) := opB2 op_ge
mutual
/-- plain data -/
def toP : D → Option PyData
  | .non => some .none
  | .bl b => some (.bool b)
  | .int i => some (.int i)
  | .str x => some (.str x)
  | .lst xs => (toPs xs).map .list
  | .tup xs => (toPs xs).map .tuple
  | .dic _ _ => none
  | .ins _ _ _ => none
  | .scr _ => none
  | .olst _ => none
  | .odic _ _ => none
  | .oins _ _ _ => none
def toPs : List D → Option (List PyData)
  | [] => some []
  | d :: r => (toP d).bind fun p => (toPs r).map (p :: ·)
end
mutual
theorem RepF.dp {G H : Hp} (e : Same G H) : ∀ (d : D) (v : V) (p : PyData), RepF C G d v → toP d = some p → Dp C.K H v p
  | .non, v, p, h, t => by cases t; cases (show v = .non from h); exact .non
  | .bl b, v, p, h, t => by cases t; cases (show v = .bl b from h); exact .bl b
  | .int i, v, p, h, t => by cases t; cases (show v = .int i from h); exact .int i
  | .str x, v, p, h, t => by cases t; cases (show v = .str x from h); exact .str x
  | .lst ds, v, p, h, t => by
    obtain ⟨a, xs, rfl, h2, h3⟩ := h
    cases q : toPs ds with
    | none => simp [toP, q] at t
    | some ps =>
      simp [toP, q] at t
      subst t
      exact .lst (.of (e _ _ h2)) (RepFs.dp e ds xs ps h3 q)
  | .tup ds, v, p, h, t => by
    obtain ⟨a, xs, rfl, h2, h3⟩ := h
    cases q : toPs ds with
    | none => simp [toP, q] at t
    | some ps =>
      simp [toP, q] at t
      subst t
      exact .tup (seqT e h2) (RepFs.dp e ds xs ps h3 q)
  | .dic _ _, _, _, _, t => by simp [toP] at t
  | .ins _ _ _, _, _, _, t => by simp [toP] at t
  | .scr _, _, _, _, t => by simp [toP] at t
  | .olst _, _, _, _, t => by simp [toP] at t
  | .odic _ _, _, _, _, t => by simp [toP] at t
  | .oins _ _ _, _, _, _, t => by simp [toP] at t
theorem RepFs.dp {G H : Hp} (e : Same G H) : ∀ (ds : List D) (vs : List V) (ps : List PyData), RepFs C G ds vs → toPs ds = some ps → DpAll C.K H vs ps
  | [], vs, ps, h, t => by
    rw [show vs = [] from h]
    simp [toPs] at t
    subst t
    exact .nil
  | d :: ds, vs, ps, h, t => by
    obtain ⟨x, r, rfl, h2, h3⟩ := h
    cases q : toP d with
    | none => simp [toPs, q] at t
    | some p =>
      cases q2 : toPs ds with
      | none => simp [toPs, q, q2] at t
      | some ps' =>
        simp [toPs, q, q2] at t
        subst t
        exact .cons (RepF.dp e d x p h2 q) (RepFs.dp e ds r ps' h3 q2)
end
mutual
/-- plain data of depth n at most -/
def okD : D → Nat → Bool
  | .non, _ => true
  | .bl _, _ => true
  | .int _, _ => true
  | .str x, _ => PyData.strOk x
  | .lst xs, n => match n with
    | 0 => false
    | n + 1 => okDs xs n
  | .tup xs, n => match n with
    | 0 => false
    | n + 1 => okDs xs n
  | .dic _ _, _ => false
  | .ins _ _ _, _ => false
  | .scr _, _ => false
  | .olst _, _ => false
  | .odic _ _, _ => false
  | .oins _ _ _, _ => false
def okDs : List D → Nat → Bool
  | [], _ => true
  | d :: r, n => okD d n && okDs r n
end
theorem okDs_all : ∀ (ds : List D) (n : Nat), okDs ds n = ds.all fun d => okD d n
  | [], n => by simp [okDs]
  | d :: r, n => by simp [okDs, okDs_all r n]
mutual
theorem okD_p : ∀ (d : D) (n : Nat), okD d n = true → ∃ p, toP d = some p ∧ p.canLay0 = true ∧ p.depth ≤ n
  | .non, n, h => ⟨_, rfl, by simp [PyData.canLay0], by simp [PyData.depth]⟩
  | .bl _, n, h => ⟨_, rfl, by simp [PyData.canLay0], by simp [PyData.depth]⟩
  | .int _, n, h => ⟨_, rfl, by simp [PyData.canLay0], by simp [PyData.depth]⟩
  | .str x, n, h => ⟨_, rfl, by simpa [PyData.canLay0, okD] using h, by simp [PyData.depth]⟩
  | .lst xs, n, h => by
    cases n with
    | zero => simp [okD] at h
    | succ n =>
      obtain ⟨ps, h1, h2, h3⟩ := okDs_p xs n (by simpa [okD] using h)
      exact ⟨.list ps, by simp [toP, h1], by simpa [PyData.canLay0] using h2, by simpa [PyData.depth] using h3⟩
  | .tup xs, n, h => by
    cases n with
    | zero => simp [okD] at h
    | succ n =>
      obtain ⟨ps, h1, h2, h3⟩ := okDs_p xs n (by simpa [okD] using h)
      exact ⟨.tuple ps, by simp [toP, h1], by simpa [PyData.canLay0] using h2, by simpa [PyData.depth] using h3⟩
  | .dic _ _, n, h => by simp [okD] at h
  | .ins _ _ _, n, h => by simp [okD] at h
  | .scr _, n, h => by simp [okD] at h
  | .olst _, n, h => by simp [okD] at h
  | .odic _ _, n, h => by simp [okD] at h
  | .oins _ _ _, n, h => by simp [okD] at h
theorem okDs_p : ∀ (ds : List D) (n : Nat), okDs ds n = true → ∃ ps, toPs ds = some ps ∧ PyData.canLayAll0 ps = true ∧ PyData.depthAll ps ≤ n
  | [], n, h => ⟨[], rfl, by simp [PyData.canLayAll0], by simp [PyData.depthAll]⟩
  | d :: r, n, h => by
    simp [okDs] at h
    obtain ⟨p, h1, h2, h3⟩ := okD_p d n h.1
    obtain ⟨ps, q1, q2, q3⟩ := okDs_p r n h.2
    exact ⟨p :: ps, by simp [toPs, h1, q1], by simp [PyData.canLayAll0, h2, q2], by simp [PyData.depthAll]; omega⟩
end
theorem okD_shaped {d : D} (h : okD d 20 = true) : ∃ p, toP d = some p ∧ SeqAt.shaped p = true := by
  obtain ⟨p, h1, h2, h3⟩ := okD_p d 20 h
  refine ⟨p, h1, ?_⟩
  show (p.canLay0 && decide (p.depth ≤ 64)) = true
  rw [h2, decide_eq_true (by omega)] <;> rfl
mutual
/-- == of plain data -/
def eqD : D → D → Bool
  | .non, .non => true
  | .bl a, .bl b => a == b
  | .bl a, .int j => (if a then 1 else 0) == j
  | .int i, .bl b => i == (if b then 1 else 0)
  | .int i, .int j => i == j
  | .str x, .str y => x == y
  | .lst xs, .lst ys => eqDs xs ys
  | .tup xs, .tup ys => eqDs xs ys
  | _, _ => false
def eqDs : List D → List D → Bool
  | [], [] => true
  | x :: xs, y :: ys => eqD x y && eqDs xs ys
  | _, _ => false
end
mutual
theorem eqv_eqD : ∀ (a b : D) (p q : PyData), toP a = some p → toP b = some q → PyData.eqv p q = eqD a b
  | .non, b, p, q, h1, h2 => by cases h1; cases b <;> simp [toP] at h2 <;> first | (subst h2; simp [PyData.eqv, eqD]) | (obtain ⟨ps, _, rfl⟩ := h2; simp [PyData.eqv, eqD])
  | .bl _, b, p, q, h1, h2 => by cases h1; cases b <;> simp [toP] at h2 <;> first | (subst h2; simp [PyData.eqv, eqD]) | (obtain ⟨ps, _, rfl⟩ := h2; simp [PyData.eqv, eqD])
  | .int _, b, p, q, h1, h2 => by cases h1; cases b <;> simp [toP] at h2 <;> first | (subst h2; simp [PyData.eqv, eqD]) | (obtain ⟨ps, _, rfl⟩ := h2; simp [PyData.eqv, eqD])
  | .str _, b, p, q, h1, h2 => by cases h1; cases b <;> simp [toP] at h2 <;> first | (subst h2; simp [PyData.eqv, eqD]) | (obtain ⟨ps, _, rfl⟩ := h2; simp [PyData.eqv, eqD])
  | .lst xs, b, p, q, h1, h2 => by
    simp [toP] at h1
    obtain ⟨ps, h1, rfl⟩ := h1
    cases b <;> simp [toP] at h2
    case lst ys => obtain ⟨qs, h2, rfl⟩ := h2; simp only [PyData.eqv, eqD]; exact eqvs_eqDs xs ys ps qs h1 h2
    case tup ys => obtain ⟨qs, h2, rfl⟩ := h2; simp [PyData.eqv, eqD]
    all_goals (subst h2; simp [PyData.eqv, eqD])
  | .tup xs, b, p, q, h1, h2 => by
    simp [toP] at h1
    obtain ⟨ps, h1, rfl⟩ := h1
    cases b <;> simp [toP] at h2
    case tup ys => obtain ⟨qs, h2, rfl⟩ := h2; simp only [PyData.eqv, eqD]; exact eqvs_eqDs xs ys ps qs h1 h2
    case lst ys => obtain ⟨qs, h2, rfl⟩ := h2; simp [PyData.eqv, eqD]
    all_goals (subst h2; simp [PyData.eqv, eqD])
  | .dic _ _, _, _, _, h1, _ => by simp [toP] at h1
  | .ins _ _ _, _, _, _, h1, _ => by simp [toP] at h1
  | .scr _, _, _, _, h1, _ => by simp [toP] at h1
  | .olst _, _, _, _, h1, _ => by simp [toP] at h1
  | .odic _ _, _, _, _, h1, _ => by simp [toP] at h1
  | .oins _ _ _, _, _, _, h1, _ => by simp [toP] at h1
theorem eqvs_eqDs : ∀ (as bs : List D) (ps qs : List PyData), toPs as = some ps → toPs bs = some qs → PyData.eqvAll ps qs = eqDs as bs
  | [], bs, ps, qs, h1, h2 => by
    simp [toPs] at h1
    subst h1
    cases bs with
    | nil => simp [toPs] at h2; subst h2; simp [PyData.eqvAll, eqDs]
    | cons b bs =>
      simp [toPs, Option.bind_eq_some_iff] at h2
      obtain ⟨q, _, qs', _, rfl⟩ := h2
      simp [PyData.eqvAll, eqDs]
  | a :: as, bs, ps, qs, h1, h2 => by
    simp [toPs, Option.bind_eq_some_iff] at h1
    obtain ⟨p, hp, ps', hps, rfl⟩ := h1
    cases bs with
    | nil => simp [toPs] at h2; subst h2; simp [PyData.eqvAll, eqDs]
    | cons b bs =>
      simp [toPs, Option.bind_eq_some_iff] at h2
      obtain ⟨q, hq, qs', hqs, rfl⟩ := h2
      simp [PyData.eqvAll, eqDs, eqv_eqD a b p q hp hq, eqvs_eqDs as bs ps' qs' hps hqs]
end
def eqG (f : Bool → Bool) : D → D → Option D := fun a b => if okD a 20 && okD b 20 then some (.bl (f (eqD a b))) else none
theorem eqG_inv {f : Bool → Bool} {a b d : D} (h : eqG f a b = some d) : ∃ p q, toP a = some p ∧ toP b = some q ∧ SeqAt.shaped p = true ∧ SeqAt.shaped q = true ∧ d = .bl (f (PyData.eqv p q)) := by
  unfold eqG at h
  split at h
  · rename_i hs
    rw [Bool.and_eq_true] at hs
    obtain ⟨p, h1, h2⟩ := okD_shaped hs.1
    obtain ⟨q, h3, h4⟩ := okD_shaped hs.2
    cases h
    exact ⟨p, q, h1, h3, h2, h4, by rw [eqv_eqD a b p q h1 h3]⟩
  · cases h
def gEq : D → D → Option D := eqG id
def gNe : D → D → Option D := eqG not
theorem o_eq (hK : X.K = C.K) (hu : X.A.units + 64 < cLine) : OpR X (compareOp .Eq) (rV2 C gEq) := by
  intro pins s σ H x y v u Q I rx ry q
  obtain ⟨G, a, b, d, gh, ra, rb, hg, k⟩ := q
  obtain ⟨p, q, h1, h2, s1, s2, rfl⟩ := eqG_inv hg
  exact op_eqD hu pins s σ H x y v u Q I rx ry ⟨p, q, hK ▸ RepF.dp gh a x p ra h1, hK ▸ RepF.dp gh b y q rb h2, s1, s2, k G H _ [] (Grow.refl gh) ⟨rfl, rfl⟩⟩
theorem o_ne (hK : X.K = C.K) (hu : X.A.units + 64 < cLine) : OpR X (compareOp .NotEq) (rV2 C gNe) := by
  intro pins s σ H x y v u Q I rx ry q
  obtain ⟨G, a, b, d, gh, ra, rb, hg, k⟩ := q
  obtain ⟨p, q, h1, h2, s1, s2, rfl⟩ := eqG_inv hg
  exact op_neD hu pins s σ H x y v u Q I rx ry ⟨p, q, hK ▸ RepF.dp gh a x p ra h1, hK ▸ RepF.dp gh b y q rb h2, s1, s2, k G H _ [] (Grow.refl gh) ⟨rfl, rfl⟩⟩
/-- is None -/
def isNon : D → Bool
  | .non => true
  | _ => false
def gIsN (f : Bool → Bool) : D → D → Option D
  | a, .non => some (.bl (f (isNon a)))
  | _, _ => none
theorem RepF.non_iff {G : Hp} {d : D} {v : V} (h : RepF C G d v) : decide (v = .non) = isNon d := by
  cases d with
  | non => cases (show v = .non from h); rfl
  | bl b => cases (show v = _ from h); rfl
  | int b => cases (show v = _ from h); rfl
  | str b => cases (show v = _ from h); rfl
  | lst _ => obtain ⟨_, _, rfl, _⟩ := h; rfl
  | tup _ => obtain ⟨_, _, rfl, _⟩ := h; rfl
  | dic _ _ => obtain ⟨_, _, rfl, _⟩ := h; rfl
  | ins _ _ _ => obtain ⟨_, _, _, _, rfl, _⟩ := h; rfl
  | scr _ => obtain ⟨_, rfl, _⟩ := h; rfl
  | olst _ => exact h.elim
  | odic _ _ => exact h.elim
  | oins _ _ _ => exact h.elim
theorem o_is : OpR X (compareOp .Is) (rV2 C (gIsN id)) := by
  intro pins s σ H x y v u Q I rx ry q
  obtain ⟨G, a, b, d, gh, ra, rb, hg, k⟩ := q
  unfold gIsN at hg
  split at hg
  · cases hg
    refine op_isN pins s σ H x y v u Q I rx ry ⟨rb, ?_⟩
    rw [ra.non_iff]
    exact k G H _ [] (Grow.refl gh) ⟨rfl, rfl⟩
  · cases hg
theorem o_isnt : OpR X (compareOp .IsNot) (rV2 C (gIsN not)) := by
  intro pins s σ H x y v u Q I rx ry q
  obtain ⟨G, a, b, d, gh, ra, rb, hg, k⟩ := q
  unfold gIsN at hg
  split at hg
  · cases hg
    refine op_notN pins s σ H x y v u Q I rx ry ⟨rb, ?_⟩
    rw [ra.non_iff]
    exact k G H _ [] (Grow.refl gh) ⟨rfl, rfl⟩
  · cases hg
/-! in -/
def inStr (f : Bool → Bool) : D → D → Option D := s2 (fun _ _ => true) fun i j => .bl (f (!(Builtin.Str.occurrences j i 0 j.length 1).isEmpty))
theorem op_inS : OpR X (compareOp .In) (rV2 C (inStr id)) := by
  intro pins s σ H x y v u Q I rx ry q
  obtain ⟨G, a, b, d, gh, ra, rb, hg, k⟩ := q
  obtain ⟨i, j, rfl, rfl, _, rfl⟩ := s2_inv hg
  cases (show x = .str i from ra)
  cases (show y = .str j from rb)
  exact op_in_str pins s σ H _ _ v u Q I rx ry ⟨i, j, rfl, rfl, k G H _ [] (Grow.refl gh) ⟨rfl, rfl⟩⟩
theorem op_notInS : OpR X (compareOp .NotIn) (rV2 C (inStr not)) := by
  intro pins s σ H x y v u Q I rx ry q
  obtain ⟨G, a, b, d, gh, ra, rb, hg, k⟩ := q
  obtain ⟨i, j, rfl, rfl, _, rfl⟩ := s2_inv hg
  cases (show x = .str i from ra)
  cases (show y = .str j from rb)
  exact op_notin_str pins s σ H _ _ v u Q I rx ry ⟨i, j, rfl, rfl, k G H _ [] (Grow.refl gh) ⟨rfl, rfl⟩⟩
/-- x in a list: plain data -/
def anyEq (x : D) (ds : List D) : Bool := ds.any fun d => eqD d x
def inLst (f : Bool → Bool) : D → D → Option D
  | a, .lst ds => if okD a 20 && okDs ds 19 then some (.bl (f (anyEq a ds))) else none
  | _, _ => none
theorem any_eqv : ∀ (ds : List D) (ps : List PyData) (a : D) (p : PyData), toP a = some p → toPs ds = some ps → (ps.any fun z => PyData.eqv z p) = anyEq a ds
  | [], ps, a, p, h1, h2 => by simp [toPs] at h2; subst h2; rfl
  | d :: ds, ps, a, p, h1, h2 => by
    simp [toPs, Option.bind_eq_some_iff] at h2
    obtain ⟨q, hq, ps', hps, rfl⟩ := h2
    have := any_eqv ds ps' a p h1 hps
    unfold anyEq at this ⊢
    rw [List.any_cons, List.any_cons, this, eqv_eqD d a q p hq h1]
theorem inLst_inv {f : Bool → Bool} {a b d : D} (h : inLst f a b = some d) : ∃ p ps, toP a = some p ∧ toP b = some (.list ps) ∧ SeqAt.shaped p = true ∧ SeqAt.shaped (.list ps) = true ∧ d = .bl (f (ps.any fun z => PyData.eqv z p)) := by
  unfold inLst at h
  split at h
  · rename_i ds
    split at h
    · rename_i hs
      rw [Bool.and_eq_true] at hs
      obtain ⟨p, h1, h2⟩ := okD_shaped hs.1
      obtain ⟨q, h3, h4⟩ := okD_shaped (d := .lst ds) (by simpa [okD] using hs.2)
      simp [toP] at h3
      obtain ⟨ps, h3, rfl⟩ := h3
      cases h
      exact ⟨p, ps, h1, by simp [toP, h3], h2, h4, by rw [any_eqv ds ps a p h1 h3]⟩
    · cases h
  · cases h
theorem op_inL (hK : X.K = C.K) (hu : X.A.units + 65 < cLine) : OpR X (compareOp .In) (rV2 C (inLst id)) := by
  intro pins s σ H x y v u Q I rx ry q
  obtain ⟨G, a, b, d, gh, ra, rb, hg, k⟩ := q
  obtain ⟨p, ps, h1, h2, s1, s2, rfl⟩ := inLst_inv hg
  exact op_inD hu pins s σ H x y v u Q I rx ry ⟨p, ps, hK ▸ RepF.dp gh a x p ra h1, hK ▸ RepF.dp gh b y _ rb h2, s1, s2, k G H _ [] (Grow.refl gh) ⟨rfl, rfl⟩⟩
theorem op_notInL (hK : X.K = C.K) (hu : X.A.units + 65 < cLine) : OpR X (compareOp .NotIn) (rV2 C (inLst not)) := by
  intro pins s σ H x y v u Q I rx ry q
  obtain ⟨G, a, b, d, gh, ra, rb, hg, k⟩ := q
  obtain ⟨p, ps, h1, h2, s1, s2, rfl⟩ := inLst_inv hg
  exact op_notInD hu pins s σ H x y v u Q I rx ry ⟨p, ps, hK ▸ RepF.dp gh a x p ra h1, hK ▸ RepF.dp gh b y _ rb h2, s1, s2, k G H _ [] (Grow.refl gh) ⟨rfl, rfl⟩⟩
/-- x in a tuple: flat things -/
def flatD : D → Bool
  | .non => true
  | .bl _ => true
  | .int _ => true
  | .str _ => true
  | _ => false
def inTup (f : Bool → Bool) : D → D → Option D
  | a, .tup ds => if flatD a && ds.all flatD then some (.bl (f (anyEq a ds))) else none
  | _, _ => none
theorem flat_v {G : Hp} {d : D} {v : V} (r : RepF C G d v) (h : flatD d = true) : flatV v = true := by
  cases d with
  | non => cases (show v = _ from r); rfl
  | bl b => cases (show v = _ from r); rfl
  | int b => cases (show v = _ from r); rfl
  | str b => cases (show v = _ from r); rfl
  | _ => cases h
theorem flat_vs {G : Hp} : ∀ {ds : List D} {xs : List V}, RepFs C G ds xs → ds.all flatD = true → xs.all flatV = true
  | [], xs, r, _ => by rw [show xs = [] from r]; rfl
  | d :: ds, xs, r, h => by
    obtain ⟨x, xr, rfl, h1, h2⟩ := r
    rw [List.all_cons, Bool.and_eq_true] at h ⊢
    exact ⟨flat_v h1 h.1, flat_vs h2 h.2⟩
theorem eqV_eqD {G : Hp} {a b : D} {v w : V} (r1 : RepF C G a v) (r2 : RepF C G b w) (h1 : flatD a = true) (h2 : flatD b = true) : eqV v w = eqD a b := by
  cases a <;> cases b <;> first | (cases h1; done) | (cases h2; done) | (cases (show v = _ from r1); cases (show w = _ from r2); first | rfl | simp [eqV, eqD])
theorem inV_any {G : Hp} {a : D} {v : V} (r : RepF C G a v) (h : flatD a = true) : ∀ {ds : List D} {xs : List V}, RepFs C G ds xs → ds.all flatD = true → inV v xs = anyEq a ds
  | [], xs, rs, _ => by rw [show xs = [] from rs]; rfl
  | d :: ds, xs, rs, hh => by
    obtain ⟨x, xr, rfl, h1, h2⟩ := rs
    rw [List.all_cons, Bool.and_eq_true] at hh
    have := inV_any r h h2 hh.2
    unfold inV anyEq at this ⊢
    rw [List.any_cons, List.any_cons, this, eqV_eqD h1 r hh.1 h]
theorem op_inT (hK : X.K = C.K) : OpR X (compareOp .In) (rV2 C (inTup id)) := by
  intro pins s σ H x y v u Q I rx ry q
  obtain ⟨G, a, b, d, gh, ra, rb, hg, k⟩ := q
  unfold inTup at hg
  split at hg
  · rename_i ds
    split at hg
    · rename_i hs
      rw [Bool.and_eq_true] at hs
      cases hg
      obtain ⟨p, xs, rfl, hp, rs⟩ := rb
      refine op_in_seq pins s σ H x _ v u Q I rx ry ⟨p, xs, rfl, .inr (hK ▸ seqT gh hp), flat_v ra hs.1, flat_vs rs hs.2, ?_⟩
      rw [inV_any ra hs.1 rs hs.2]
      exact k G H _ [] (Grow.refl gh) ⟨rfl, rfl⟩
    · cases hg
  · cases hg
theorem op_notInT (hK : X.K = C.K) : OpR X (compareOp .NotIn) (rV2 C (inTup not)) := by
  intro pins s σ H x y v u Q I rx ry q
  obtain ⟨G, a, b, d, gh, ra, rb, hg, k⟩ := q
  unfold inTup at hg
  split at hg
  · rename_i ds
    split at hg
    · rename_i hs
      rw [Bool.and_eq_true] at hs
      cases hg
      obtain ⟨p, xs, rfl, hp, rs⟩ := rb
      refine op_notIn_seq pins s σ H x _ v u Q I rx ry ⟨p, xs, rfl, .inr (hK ▸ seqT gh hp), flat_v ra hs.1, flat_vs rs hs.2, ?_⟩
      rw [inV_any ra hs.1 rs hs.2]
      exact k G H _ [] (Grow.refl gh) ⟨rfl, rfl⟩
    · cases hg
  · cases hg
def gIn : D → D → Option D := alt (inStr id) (alt (inLst id) (inTup id))
def gNotIn : D → D → Option D := alt (inStr not) (alt (inLst not) (inTup not))
theorem o_in (hK : X.K = C.K) (hu : X.A.units + 65 < cLine) : OpR X (compareOp .In) (rV2 C gIn) := opAlt op_inS (opAlt (op_inL hK hu) (op_inT hK))
theorem o_notIn (hK : X.K = C.K) (hu : X.A.units + 65 < cLine) : OpR X (compareOp .NotIn) (rV2 C gNotIn) := opAlt op_notInS (opAlt (op_notInL hK hu) (op_notInT hK))

/-! ### items and slices -/
def gIx : D → D → Option D
  | .lst ds, .int i => atI ds i
  | .tup ds, .int i => atI ds i
  | .scr ns, .int i => (atI ns i).map .int
  | .str z, .int i => if z.length ≤ 100000 then (atI z.cps.toList i).map fun c => .str ⟨#[c]⟩ else none
  | _, _ => none
theorem atI_rep {G : Hp} {ds : List D} {xs : List V} {i : Int} {d : D} (r : RepFs C G ds xs) (h : atI ds i = some d) : ∃ v, atI xs i = some v ∧ RepF C G d v := by
  unfold atI at h ⊢
  rw [r.length]
  cases e : ixN ds.length i with
  | none => rw [e] at h; cases h
  | some j =>
    rw [e] at h
    have h : ds[j]? = some d := h
    obtain ⟨v, h1, h2⟩ := r.get h
    exact ⟨v, h1, h2⟩
theorem o_ix (hK : X.K = C.K) : IxR X (rV2 C gIx) := by
  intro value slice pins s σ H x y v u Q I rx ry q hs
  obtain ⟨G, a, b, d, gh, ra, rb, hg, k⟩ := q
  unfold gIx at hg
  split at hg
  · rename_i ds i
    obtain ⟨p, xs, rfl, hp, rs⟩ := ra
    cases (show y = .int i from rb)
    obtain ⟨w, h1, h2⟩ := atI_rep rs hg
    exact ix_list value slice pins s σ H _ _ v u Q I rx ry ⟨p, xs, i, w, rfl, rfl, .of (gh _ _ hp), h1, k G H w [] (Grow.refl gh) h2.o⟩ hs
  · rename_i ds i
    obtain ⟨p, xs, rfl, hp, rs⟩ := ra
    cases (show y = .int i from rb)
    obtain ⟨w, h1, h2⟩ := atI_rep rs hg
    exact ix_tup value slice pins s σ H _ _ v u Q I rx ry ⟨p, xs, i, w, rfl, rfl, hK ▸ seqT gh hp, h1, k G H w [] (Grow.refl gh) h2.o⟩ hs
  · rename_i ns i
    obtain ⟨p, rfl, hp⟩ := ra
    cases (show y = .int i from rb)
    cases hz : atI ns i with
    | none => rw [hz] at hg; cases hg
    | some n =>
      rw [hz] at hg
      cases hg
      refine ix_list value slice pins s σ H _ _ v u Q I rx ry ⟨p, _, i, .int n, rfl, rfl, hK ▸ gh.seq hp, ?_, k G H _ [] (Grow.refl gh) ⟨rfl, rfl⟩⟩ hs
      unfold atI at hz ⊢
      rw [List.length_map]
      cases e : ixN ns.length i with
      | none => rw [e] at hz; cases hz
      | some j =>
        rw [e] at hz
        have hz : ns[j]? = some n := hz
        show (ns.map V.int)[j]? = some (.int n)
        rw [List.getElem?_map, hz]; rfl
  · rename_i z i
    split at hg
    · rename_i hl
      cases (show x = .str z from ra)
      cases (show y = .int i from rb)
      cases hz : atI z.cps.toList i with
      | none => rw [hz] at hg; cases hg
      | some c =>
        rw [hz] at hg
        cases hg
        exact ix_str value slice pins s σ H _ _ v u Q I rx ry ⟨z, i, c, rfl, rfl, le1e5 hl, hz, k G H _ [] (Grow.refl gh) ⟨rfl, rfl⟩⟩ hs
    · cases hg
  · cases hg
end
end VL
namespace VL
open PySem PySem.Spec PyProof.Rows L2
/-! ### built-in functions -/
def altL (g h : List D → Option D) : List D → Option D := fun a => match g a with
  | some d => some d
  | none => h a
section
variable {C : Ct} {W : WX} {X : Cx} {ios : List Nat}
theorem crAlt {f : Value} {g h : List D → Option D} (h1 : CallR X f (rVs C g)) (h2 : CallR X f (rVs C h)) : CallR X f (rVs C (altL g h)) := by
  intro pins s σ H xs us Q I r q
  obtain ⟨G, ds, d, gh, rs, hg, k⟩ := q
  unfold altL at hg
  split at hg
  · rename_i d' hd
    cases hg
    exact h1 pins s σ H xs us Q I r ⟨G, ds, d, gh, rs, hd, k⟩
  · exact h2 pins s σ H xs us Q I r ⟨G, ds, d, gh, rs, hg, k⟩
theorem rep1 {G : Hp} {d : D} {vs : List V} (h : RepFs C G [d] vs) : ∃ v, vs = [v] ∧ RepF C G d v := by
  obtain ⟨v, r, rfl, h1, h2⟩ := h
  cases (show r = [] from h2)
  exact ⟨v, rfl, h1⟩
theorem rep2 {G : Hp} {d e : D} {vs : List V} (h : RepFs C G [d, e] vs) : ∃ v w, vs = [v, w] ∧ RepF C G d v ∧ RepF C G e w := by
  obtain ⟨v, r, rfl, h1, w, r2, rfl, h2, h3⟩ := h
  cases (show r2 = [] from h3)
  exact ⟨v, w, rfl, h1, h2⟩
def bLen : List D → Option D
  | [.lst ds] => some (.int ds.length)
  | [.tup ds] => some (.int ds.length)
  | [.scr ns] => some (.int ns.length)
  | [.str x] => if x.length ≤ 100000 then some (.int x.length) else none
  | _ => none
theorem b_len (hK : X.K = C.K) : CallR X (.builtin "len") (rVs C bLen) := by
  intro pins s σ H xs us Q I r q
  obtain ⟨G, ds, d, gh, rs, hg, k⟩ := q
  unfold bLen at hg
  split at hg
  · obtain ⟨v, rfl, a, ys, rfl, ha, r2⟩ := rep1 rs
    cases hg
    exact call_len pins s σ H _ us Q I r ⟨_, _, rfl, .inl ⟨ys, .of (gh _ _ ha), rfl⟩, by rw [r2.length]; exact k G H _ [] (Grow.refl gh) ⟨rfl, rfl⟩⟩
  · obtain ⟨v, rfl, a, ys, rfl, ha, r2⟩ := rep1 rs
    cases hg
    exact call_len pins s σ H _ us Q I r ⟨_, _, rfl, .inr ⟨ys, hK ▸ seqT gh ha, rfl⟩, by rw [r2.length]; exact k G H _ [] (Grow.refl gh) ⟨rfl, rfl⟩⟩
  · obtain ⟨v, rfl, a, rfl, ha⟩ := rep1 rs
    cases hg
    exact call_len pins s σ H _ us Q I r ⟨_, _, rfl, .inl ⟨_, hK ▸ gh.seq ha, rfl⟩, by rw [List.length_map]; exact k G H _ [] (Grow.refl gh) ⟨rfl, rfl⟩⟩
  · rename_i x
    split at hg
    · rename_i hz
      obtain ⟨v, rfl, hv⟩ := rep1 rs
      cases (show v = .str x from hv)
      cases hg
      exact call_len pins s σ H _ us Q I r ⟨_, _, rfl, ⟨le1e5 hz, rfl⟩, k G H _ [] (Grow.refl gh) ⟨rfl, rfl⟩⟩
    · cases hg
  · cases hg
def bDivmod : List D → Option D
  | [.int i, .int j] => if divC i j then some (.tup [.int (i / j), .int (i % j)]) else none
  | _ => none
theorem b_divmod : CallR X (.builtin "divmod") (rVs C bDivmod) := by
  intro pins s σ H xs us Q I r q
  obtain ⟨G, ds, d, gh, rs, hg, k⟩ := q
  unfold bDivmod at hg
  split at hg
  · rename_i i j
    split at hg
    · rename_i hc
      obtain ⟨v, w, rfl, hv, hw⟩ := rep2 rs
      cases (show v = .int i from hv)
      cases (show w = .int j from hw)
      cases hg
      obtain ⟨h1, h2⟩ := divC_of hc
      exact call_divmodW pins s σ H _ us Q I r ⟨i, j, rfl, ⟨h1, PyProof.noPylong_of_log2 h2⟩, fun p hp => k _ _ _ [] (Grow.shared gh hp) ⟨⟨p, _, rfl, .inl (.inl upd_same), _, _, rfl, rfl, _, _, rfl, rfl, rfl⟩, rfl⟩⟩
    · cases hg
  · cases hg
def bMax2 : List D → Option D
  | [.int i, .int j] => some (.int (if j > i then j else i))
  | _ => none
def bMin2 : List D → Option D
  | [.int i, .int j] => some (.int (if j < i then j else i))
  | _ => none
theorem b_max2 (hc : X.calm = true) : CallR X (.builtin "max") (rVs C bMax2) := by
  intro pins s σ H xs us Q I r q
  obtain ⟨G, ds, d, gh, rs, hg, k⟩ := q
  unfold bMax2 at hg
  split at hg
  · rename_i i j
    obtain ⟨v, w, rfl, hv, hw⟩ := rep2 rs
    cases (show v = .int i from hv)
    cases (show w = .int j from hw)
    cases hg
    exact call_max2 hc pins s σ H _ us Q I r ⟨i, j, rfl, k G H _ [] (Grow.refl gh) ⟨rfl, rfl⟩⟩
  · cases hg
theorem b_min2 (hc : X.calm = true) : CallR X (.builtin "min") (rVs C bMin2) := by
  intro pins s σ H xs us Q I r q
  obtain ⟨G, ds, d, gh, rs, hg, k⟩ := q
  unfold bMin2 at hg
  split at hg
  · rename_i i j
    obtain ⟨v, w, rfl, hv, hw⟩ := rep2 rs
    cases (show v = .int i from hv)
    cases (show w = .int j from hw)
    cases hg
    exact call_min2 hc pins s σ H _ us Q I r ⟨i, j, rfl, k G H _ [] (Grow.refl gh) ⟨rfl, rfl⟩⟩
  · cases hg
def bList : List D → Option D
  | [.lst ds] => some (.olst ds)
  | [.tup ds] => some (.olst ds)
  | _ => none
theorem b_list (hK : X.K = C.K) : CallR X (.type "list") (rVs C bList) := by
  intro pins s σ H xs us Q I r q
  obtain ⟨G, ds, d, gh, rs, hg, k⟩ := q
  unfold bList at hg
  split at hg
  · obtain ⟨v, rfl, a, ys, rfl, ha, r2⟩ := rep1 rs
    cases hg
    exact call_list_of pins s σ H _ us Q I r ⟨a, ys, rfl, .inl (.of (gh _ _ ha)), fun l hl => k G _ _ [l] (Grow.own1 gh hl) ⟨l, ys, [], rfl, upd_same, r2.o, rfl⟩⟩
  · obtain ⟨v, rfl, a, ys, rfl, ha, r2⟩ := rep1 rs
    cases hg
    exact call_list_of pins s σ H _ us Q I r ⟨a, ys, rfl, .inr (hK ▸ seqT gh ha), fun l hl => k G _ _ [l] (Grow.own1 gh hl) ⟨l, ys, [], rfl, upd_same, r2.o, rfl⟩⟩
  · cases hg
def bTuple : List D → Option D
  | [.lst ds] => some (.tup ds)
  | [.tup ds] => some (.tup ds)
  | _ => none
theorem b_tuple (hK : X.K = C.K) : CallR X (.type "tuple") (rVs C bTuple) := by
  intro pins s σ H xs us Q I r q
  obtain ⟨G, ds, d, gh, rs, hg, k⟩ := q
  unfold bTuple at hg
  split at hg
  · obtain ⟨v, rfl, a, ys, rfl, ha, r2⟩ := rep1 rs
    cases hg
    exact call_tuple_of pins s σ H _ us Q I r ⟨a, ys, rfl, .inl ⟨.of (gh _ _ ha), fun l hl => k _ _ _ [] (Grow.shared gh hl) ⟨⟨l, ys, rfl, .inl (.inl upd_same), RepFs.mono (Same.new (same_none gh hl)) _ _ r2⟩, rfl⟩⟩⟩
  · obtain ⟨v, rfl, a, ys, rfl, ha, r2⟩ := rep1 rs
    cases hg
    exact call_tuple_of pins s σ H _ us Q I r ⟨a, ys, rfl, .inr ⟨hK ▸ seqT gh ha, k G H _ [] (Grow.refl gh) ⟨⟨a, ys, rfl, ha, r2⟩, rfl⟩⟩⟩
  · cases hg
/-- lists of intsD, of truths -/
def intsD : List D → Option (List Int)
  | [] => some []
  | .int i :: r => (intsD r).map (i :: ·)
  | _ :: _ => none
def blsD : List D → Option (List Bool)
  | [] => some []
  | .bl b :: r => (blsD r).map (b :: ·)
  | _ :: _ => none
theorem intsD_rep {G : Hp} : ∀ {ds : List D} {xs : List V} {ns : List Int}, RepFs C G ds xs → intsD ds = some ns → xs = ns.map V.int ∧ ds = ns.map .int
  | [], xs, ns, r, h => by cases h; exact ⟨r, rfl⟩
  | .int i :: ds, xs, ns, r, h => by
    obtain ⟨x, xr, rfl, h1, h2⟩ := r
    cases (show x = .int i from h1)
    cases q : intsD ds with
    | none => simp [intsD, q] at h
    | some ms =>
      simp [intsD, q] at h
      subst h
      obtain ⟨e1, e2⟩ := intsD_rep h2 q
      exact ⟨by rw [e1]; rfl, by rw [e2]; rfl⟩
  | .non :: _, _, _, _, h => by simp [intsD] at h
  | .bl _ :: _, _, _, _, h => by simp [intsD] at h
  | .str _ :: _, _, _, _, h => by simp [intsD] at h
  | .lst _ :: _, _, _, _, h => by simp [intsD] at h
  | .tup _ :: _, _, _, _, h => by simp [intsD] at h
  | .dic _ _ :: _, _, _, _, h => by simp [intsD] at h
  | .ins _ _ _ :: _, _, _, _, h => by simp [intsD] at h
  | .scr _ :: _, _, _, _, h => by simp [intsD] at h
  | .olst _ :: _, _, _, _, h => by simp [intsD] at h
  | .odic _ _ :: _, _, _, _, h => by simp [intsD] at h
  | .oins _ _ _ :: _, _, _, _, h => by simp [intsD] at h
theorem blsD_rep {G : Hp} : ∀ {ds : List D} {xs : List V} {ns : List Bool}, RepFs C G ds xs → blsD ds = some ns → xs = ns.map V.bl ∧ ds = ns.map .bl
  | [], xs, ns, r, h => by cases h; exact ⟨r, rfl⟩
  | .bl i :: ds, xs, ns, r, h => by
    obtain ⟨x, xr, rfl, h1, h2⟩ := r
    cases (show x = .bl i from h1)
    cases q : blsD ds with
    | none => simp [blsD, q] at h
    | some ms =>
      simp [blsD, q] at h
      subst h
      obtain ⟨e1, e2⟩ := blsD_rep h2 q
      exact ⟨by rw [e1]; rfl, by rw [e2]; rfl⟩
  | .non :: _, _, _, _, h => by simp [blsD] at h
  | .int _ :: _, _, _, _, h => by simp [blsD] at h
  | .str _ :: _, _, _, _, h => by simp [blsD] at h
  | .lst _ :: _, _, _, _, h => by simp [blsD] at h
  | .tup _ :: _, _, _, _, h => by simp [blsD] at h
  | .dic _ _ :: _, _, _, _, h => by simp [blsD] at h
  | .ins _ _ _ :: _, _, _, _, h => by simp [blsD] at h
  | .scr _ :: _, _, _, _, h => by simp [blsD] at h
  | .olst _ :: _, _, _, _, h => by simp [blsD] at h
  | .odic _ _ :: _, _, _, _, h => by simp [blsD] at h
  | .oins _ _ _ :: _, _, _, _, h => by simp [blsD] at h
theorem intsD_map : ∀ ns : List Int, intsD (ns.map .int) = some ns
  | [] => rfl
  | n :: ns => by simp [intsD, intsD_map ns]
theorem blsD_map : ∀ ns : List Bool, blsD (ns.map .bl) = some ns
  | [] => rfl
  | n :: ns => by simp [blsD, blsD_map ns]
theorem rep_ints {G : Hp} : ∀ ns : List Int, RepFs C G (ns.map .int) (ns.map V.int)
  | [] => rfl
  | n :: ns => ⟨_, _, rfl, rfl, rep_ints ns⟩
def bSum : List D → Option D
  | [.lst ds] => (intsD ds).map fun ns => .int ns.sum
  | _ => none
theorem b_sum (hK : X.K = C.K) (hc : X.calm = true) : CallR X (.builtin "sum") (rVs C bSum) := by
  intro pins s σ H xs us Q I r q
  obtain ⟨G, ds, d, gh, rs, hg, k⟩ := q
  unfold bSum at hg
  split at hg
  · rename_i es
    obtain ⟨v, rfl, a, ys, rfl, ha, r2⟩ := rep1 rs
    cases hn : intsD es with
    | none => rw [hn] at hg; cases hg
    | some ns =>
      rw [hn] at hg
      cases hg
      obtain ⟨rfl, _⟩ := intsD_rep r2 hn
      exact cr_sum hc pins s σ H _ us Q I r ⟨a, ns, rfl, .of (gh _ _ ha), k G H _ [] (Grow.refl gh) ⟨rfl, rfl⟩⟩
  · cases hg
def bAll : List D → Option D
  | [.lst ds] => (blsD ds).map fun ns => .bl (ns.all id)
  | _ => none
def bAny : List D → Option D
  | [.lst ds] => (blsD ds).map fun ns => .bl (ns.any id)
  | _ => none
theorem b_all (hc : X.calm = true) : CallR X (.builtin "all") (rVs C bAll) := by
  intro pins s σ H xs us Q I r q
  obtain ⟨G, ds, d, gh, rs, hg, k⟩ := q
  unfold bAll at hg
  split at hg
  · rename_i es
    obtain ⟨v, rfl, a, ys, rfl, ha, r2⟩ := rep1 rs
    cases hn : blsD es with
    | none => rw [hn] at hg; cases hg
    | some ns =>
      rw [hn] at hg
      cases hg
      obtain ⟨rfl, _⟩ := blsD_rep r2 hn
      exact cr_all hc pins s σ H _ us Q I r ⟨a, ns, rfl, .of (gh _ _ ha), k G H _ [] (Grow.refl gh) ⟨rfl, rfl⟩⟩
  · cases hg
theorem b_any (hc : X.calm = true) : CallR X (.builtin "any") (rVs C bAny) := by
  intro pins s σ H xs us Q I r q
  obtain ⟨G, ds, d, gh, rs, hg, k⟩ := q
  unfold bAny at hg
  split at hg
  · rename_i es
    obtain ⟨v, rfl, a, ys, rfl, ha, r2⟩ := rep1 rs
    cases hn : blsD es with
    | none => rw [hn] at hg; cases hg
    | some ns =>
      rw [hn] at hg
      cases hg
      obtain ⟨rfl, _⟩ := blsD_rep r2 hn
      exact cr_any hc pins s σ H _ us Q I r ⟨a, ns, rfl, .of (gh _ _ ha), k G H _ [] (Grow.refl gh) ⟨rfl, rfl⟩⟩
  · cases hg
def sortI (ns : List Int) : List Int := ns.mergeSort fun a b => decide (a ≤ b)
theorem sortI_eq {ns ms : List Int} (p : ms.Perm ns) (s : ms.Pairwise (· ≤ ·)) : ms = sortI ns := by
  have s2 : (sortI ns).Pairwise (· ≤ ·) := by
    have := List.pairwise_mergeSort (le := fun a b : Int => decide (a ≤ b)) (fun a b c h1 h2 => by simp at *; omega) (fun a b => by simp; omega) ns
    exact this.imp fun h => by simpa using h
  have p2 : ms.Perm (sortI ns) := p.trans (List.mergeSort_perm ns _).symm
  exact p2.eq_of_pairwise (fun a b _ _ h1 h2 => by omega) s s2
def bSorted : List D → Option D
  | [.lst ds] => (intsD ds).map fun ns => .olst ((sortI ns).map .int)
  | _ => none
theorem b_sorted : CallR X (.builtin "sorted") (rVs C bSorted) := by
  intro pins s σ H xs us Q I r q
  obtain ⟨G, ds, d, gh, rs, hg, k⟩ := q
  unfold bSorted at hg
  split at hg
  · rename_i es
    obtain ⟨v, rfl, a, ys, rfl, ha, r2⟩ := rep1 rs
    cases hn : intsD es with
    | none => rw [hn] at hg; cases hg
    | some ns =>
      rw [hn] at hg
      cases hg
      obtain ⟨rfl, _⟩ := intsD_rep r2 hn
      refine cr_sortedI pins s σ H _ us Q I r ⟨a, ns, rfl, .of (gh _ _ ha), fun ms p pm so hp => ?_⟩
      rw [sortI_eq pm so]
      exact k G _ _ [p] (Grow.own1 gh hp) ⟨p, _, [], rfl, upd_same, (rep_ints _).o, rfl⟩
  · cases hg
def bInt : List D → Option D
  | [.int i] => some (.int i)
  | [.bl b] => some (.int (if b then 1 else 0))
  | _ => none
theorem b_int : CallR X (.type "int") (rVs C bInt) := by
  intro pins s σ H xs us Q I r q
  obtain ⟨G, ds, d, gh, rs, hg, k⟩ := q
  unfold bInt at hg
  split at hg
  · rename_i i
    obtain ⟨v, rfl, hv⟩ := rep1 rs
    cases (show v = .int i from hv)
    cases hg
    exact call_int1 pins s σ H _ us Q I r (.inl ⟨i, rfl, k G H _ [] (Grow.refl gh) ⟨rfl, rfl⟩⟩)
  · rename_i i
    obtain ⟨v, rfl, hv⟩ := rep1 rs
    cases (show v = .bl i from hv)
    cases hg
    exact call_int1 pins s σ H _ us Q I r (.inr ⟨i, rfl, k G H _ [] (Grow.refl gh) ⟨rfl, rfl⟩⟩)
  · cases hg
/-! isinstance(x, T), T a built-in class -/
def tyN : D → Option String
  | .non => some "NoneType"
  | .bl _ => some "bool"
  | .int _ => some "int"
  | .str _ => some "str"
  | .lst _ => some "list"
  | .tup _ => some "tuple"
  | .dic _ _ => some "dict"
  | _ => none
def isB (t T : String) : Bool := t == T || (t == "bool" && T == "int")
def gIsi (T : String) (a : D) : Option D := (tyN a).map fun t => .bl (isB t T)
theorem kit_all {t T : String} (h1 : t ∈ ["NoneType", "bool", "int", "str", "list", "tuple", "dict"]) (h2 : T ∈ ["bool", "int", "str", "list", "tuple", "dict"]) : kitB t T = some (isB t T) := by
  have : ∀ t ∈ ["NoneType", "bool", "int", "str", "list", "tuple", "dict"], ∀ T ∈ ["bool", "int", "str", "list", "tuple", "dict"], kitB t T = some (isB t T) := by decide +kernel
  exact this t h1 T h2
theorem RepF.tyx {G H : Hp} {d : D} {v : V} {t : String} (gh : Same G H) (r : RepF C G d v) (h : tyN d = some t) : TyX C.K H v (.type t) := by
  cases d with
  | non => cases h; cases (show v = _ from r); exact .base .non
  | bl b => cases h; cases (show v = _ from r); exact .base (.bl b)
  | int b => cases h; cases (show v = _ from r); exact .base (.int b)
  | str b => cases h; cases (show v = _ from r); exact .base (.str b)
  | lst ds =>
    cases h
    obtain ⟨a, xs, rfl, ha, _⟩ := r
    exact .base (.lst (gh _ _ ha))
  | tup ds =>
    cases h
    obtain ⟨a, xs, rfl, ha, _⟩ := r
    rcases ha with (ha | ⟨o, ha⟩) | ⟨o, its, n, ho, hc, _⟩
    · exact .base (.tup (gh _ _ ha))
    · exact .fTuple (gh _ _ ha)
    · exact .kTuple ho hc
  | dic ks ds =>
    cases h
    obtain ⟨a, xs, rfl, ha, _⟩ := r
    exact .base (.dK (gh _ _ ha))
  | _ => cases h
theorem rd_isi {T : String} (hT : T ∈ ["bool", "int", "str", "list", "tuple", "dict"]) (hK : X.K = C.K) {fa : M D} {σ : L2.St} {H : Hp} {Q : VK} (h : rdE C W (e1 (gIsi T) fa) σ H Q) : tCB (rIsi X.K) (tCons (rdE C W fa) (tCons (tC (.ty T)) tNil)) σ H Q := by
  refine rdE_mono (rd_e1 h) fun v H1 ⟨G, a, d, gh, ra, hg, k⟩ => ?_
  unfold gIsi at hg
  cases ht : tyN a with
  | none => rw [ht] at hg; cases hg
  | some t =>
    rw [ht] at hg
    cases hg
    have hm : t ∈ ["NoneType", "bool", "int", "str", "list", "tuple", "dict"] := by cases a <;> cases ht <;> decide
    exact ⟨v, .ty T, .type t, .type T, isB t T, rfl, .ty T, hK ▸ ra.tyx gh ht, kit_ty (kit_all hm hT), k G H1 _ [] (Grow.refl gh) ⟨rfl, rfl⟩⟩
theorem pe_isi {a : Expr} {T : String} {x : Str} {p p2 pos : Pos} {fa : M D} (hT : T ∈ ["bool", "int", "str", "list", "tuple", "dict"]) (hK : X.K = C.K) (hg : Gl X "isinstance") (hm : X.mg "isinstance" = none) (hv : bootBuiltins "isinstance" = some (.builtin "isinstance")) (hg2 : Gl X x) (hm2 : X.mg x = none) (hv2 : bootBuiltins x = some (.type T)) (ha : PE X a (rdE C W fa)) (hn2 : x ≠ "__name__" := by decide) (hdb2 : (x == ("__debug__" : Str)) = false := by decide)
    (h1 : starEach [a, .Name x p2] X.env = (false, eval a X.env) :: starEach [.Name x p2] X.env := by rfl) (h2 : starEach [.Name x p2] X.env = (false, eval (.Name x p2) X.env) :: starEach [] X.env := by rfl) (hpl : (backTo pos (starEach [.Name x p2] X.env)).any (·.1) = false := by rfl) :
    PE X (.Call (.Name "isinstance" p) [a, .Name x p2] [] pos) (rdE C W (e1 (gIsi T) fa)) :=
  imE (pe_callB call_isi hg hm hv (pa_cons ha (pa_cons (pe_bltn (v := .ty T) hg2 hm2 hv2 rfl hn2 hdb2) pa_nil h2) h1) (he := h1) (hpl := hpl)) fun _ _ _ h => rd_isi hT hK h
/-! slices -/
def rdO (C : Ct) (W : WX) (f : M (Option Int)) : TO := fun σ H Q => ∃ (B : Bs) (G : Hp) (env : Env), env.length = σ.length ∧ B.At C G H σ env ∧
  Out C W B σ (f env) fun o env' => ∀ G' H', env'.length = σ.length → B.At C G' H' σ env' → Q o H'
def oNo : M (Option Int) := fun env => .ok none env
def intO : D → Option (Option Int)
  | .int i => some (some i)
  | _ => none
def oSo (fe : M D) : M (Option Int) := fun env => (fe env).bind fun d e => ofO (intO d) e
theorem imO {e : Option Expr} {t t' : TO} (h : PO X e t) (i : ∀ σ H Q, t' σ H Q → t σ H Q) : PO X e t' := ⟨fun pins s σ H Q I q => h.run pins s σ H Q I (i _ _ _ q)⟩
theorem po_n : PO X none (rdO C W oNo) := imO po_none fun σ H Q ⟨B, G, env, hl, P, o⟩ => o G H hl P
theorem po_s {e : Expr} {fe : M D} (h : PE X e (rdE C W fe)) : PO X (some e) (rdO C W (oSo fe)) := imO (po_some h) fun σ H Q ⟨B, G, env, hl, P, o⟩ => ⟨B, G, env, hl, P, o.bind.mono fun d e1 _ q G' H' v l P' => by
  cases d with
  | int i =>
    obtain ⟨fp, ro⟩ := at_last l P'
    exact ⟨i, ro.1, q G' H' l (push_pop P')⟩
  | _ => exact q.elim⟩
def eSl (g : D → Option Int → Option Int → Option D) (fe : M D) (fl fu : M (Option Int)) : M D := fun env => (fe env).bind fun d e1 => (fl e1).bind fun l e2 => (fu e2).bind fun u e3 => ofO (g (frz d) l u) e3
def rVsl (C : Ct) (g : D → Option Int → Option Int → Option D) : V → Option Int → Option Int → Hp → VK → Prop := fun x l u H Q => ∃ G a d, Same G H ∧ RepF C G a x ∧ g a l u = some d ∧ ∀ G' H' v fp, Grow G H G' H' fp → RepO C G' H' d v fp → Q v H'
theorem rd_sl {g : D → Option Int → Option Int → Option D} {fe : M D} {fl fu : M (Option Int)} {σ : L2.St} {H : Hp} {Q : VK} (h : rdE C W (eSl g fe fl fu) σ H Q) : tSl (rVsl C g) (rdE C W fe) (rdO C W fl) (rdO C W fu) σ H Q := by
  obtain ⟨B, G, env, hl, P, o⟩ := h
  have hx := at_len P hl
  refine ⟨B, G, env, hl, P, o.bind.mono fun d e1 _ o1 G1 H1 v1 l1 P1 => ?_⟩
  refine ⟨B.push v1 d, G1, e1, l1, P1, (Out.under (v := v1) (d := some d) hx o1).bind.mono fun l e2 _ o2 G2 H2 l2 P2 => ?_⟩
  refine ⟨B.push v1 d, G2, e2, l2, P2, o2.bind.mono fun u e3 _ o3 G3 H3 l3 P3 => ?_⟩
  obtain ⟨G4, s4, P4, rf⟩ := rd_frz (fe := fe) (Q := fun _ _ => True) l3 P3
  cases hg : g (frz d) l u with
  | none => rw [hg] at o3; exact o3.elim
  | some r =>
    rw [hg] at o3
    refine ⟨G4, frz d, r, (show Post _ _ _ _ _ _ _ _ from P4).gh, rf, hg, fun G' H' v fp gr ro => o3 G' H' v l3 ?_⟩
    have := Post.grow P4 gr ro
    refine push2_mid l3 (v := v1) (d := frz d) ?_
    unfold Bs.At Bs.push at this ⊢
    simpa [List.append_assoc] using this
def cutD (xs : List D) (lo hi : Option Int) : List D := (xs.drop (HT.sIx xs.length 0 lo)).take (HT.sIx xs.length xs.length hi - HT.sIx xs.length 0 lo)
theorem RepFs.take {G : Hp} : ∀ {es : List D} {xs : List V} (n : Nat), RepFs C G es xs → RepFs C G (es.take n) (xs.take n)
  | es, xs, 0, h => rfl
  | [], xs, n + 1, h => by rw [show xs = [] from h]; rfl
  | e :: es, xs, n + 1, h => by
    obtain ⟨x, xr, rfl, h1, h2⟩ := h
    exact ⟨x, xr.take n, rfl, h1, RepFs.take n h2⟩
theorem RepFs.drop {G : Hp} : ∀ {es : List D} {xs : List V} (n : Nat), RepFs C G es xs → RepFs C G (es.drop n) (xs.drop n)
  | es, xs, 0, h => h
  | [], xs, n + 1, h => by rw [show xs = [] from h]; rfl
  | e :: es, xs, n + 1, h => by
    obtain ⟨x, xr, rfl, h1, h2⟩ := h
    exact RepFs.drop n h2
theorem RepFs.cut {G : Hp} {es : List D} {xs : List V} {lo hi : Option Int} (h : RepFs C G es xs) : RepFs C G (cutD es lo hi) (cutV xs lo hi) := by
  unfold cutD cutV
  rw [h.length]
  exact (h.drop _).take _
def gSl : D → Option Int → Option Int → Option D
  | .lst xs, lo, hi => some (.olst (cutD xs lo hi))
  | .tup xs, lo, hi => if HT.sIx xs.length 0 lo = 0 ∧ HT.sIx xs.length xs.length hi = xs.length then none else some (.tup (cutD xs lo hi))
  | .str z, lo, hi => if z.length ≤ 100000 then some (.str (cutS z lo hi)) else none
  | _, _, _ => none
theorem sl_any (hK : X.K = C.K) : SlR X (rVsl C gSl) := by
  intro pins s σ H x v vl vu lo hi sl Q I rx hs pl pu q
  obtain ⟨G, a, d, gh, ra, hg, k⟩ := q
  unfold gSl at hg
  split at hg
  · obtain ⟨p, xs, rfl, hp, rs⟩ := ra
    cases hg
    exact sl_list pins s σ H _ v vl vu _ _ sl Q I rx hs pl pu ⟨p, xs, rfl, .of (gh _ _ hp), fun l hl => k G _ _ [l] (Grow.own1 gh hl) ⟨l, _, [], rfl, upd_same, rs.cut.o, rfl⟩⟩
  · split at hg
    · cases hg
    · rename_i hw
      obtain ⟨p, xs, rfl, hp, rs⟩ := ra
      cases hg
      exact sl_tup pins s σ H _ v vl vu _ _ sl Q I rx hs pl pu ⟨p, xs, rfl, hK ▸ seqT gh hp, by rw [rs.length]; exact hw, fun l hl => k _ _ _ [] (Grow.shared gh hl) ⟨⟨l, _, rfl, .inl (.inl upd_same), RepFs.mono (Same.new (same_none gh hl)) _ _ rs.cut⟩, rfl⟩⟩
  · rename_i z
    split at hg
    · rename_i hz
      cases (show x = .str z from ra)
      cases hg
      exact sl_str pins s σ H _ v vl vu _ _ sl Q I rx hs pl pu ⟨z, rfl, le1e5 hz, k G H _ [] (Grow.refl gh) ⟨rfl, rfl⟩⟩
    · cases hg
  · cases hg
theorem pe_sl {e : Expr} {lo hi : Option Expr} {p2 pos : Pos} {fe : M D} {fl fu : M (Option Int)} (hK : X.K = C.K) (he : PE X e (rdE C W fe)) (hl : PO X lo (rdO C W fl)) (hu : PO X hi (rdO C W fu)) : PE X (.Subscript e (.Slice lo hi none p2) pos) (rdE C W (eSl gSl fe fl fu)) :=
  imE (pe_slice (sl_any hK) he hl hu) fun _ _ _ h => rd_sl h
/-! text methods -/
def mUpper : D → Option D
  | .str x => if x.length ≤ 100000 then some (.str (Txt.upper x)) else none
  | _ => none
theorem pe_up {o : Expr} {apos pos : Pos} {fo : M D} (ho : PE X o (rdE C W fo)) (hbase : attributeBase o "upper" X.env (eval o X.env) = eval o X.env := by rfl) (hline : (apos.endLine == pos.line) = true := by rfl) : PE X (.Call (.Attribute o "upper" apos) [] [] pos) (rdE C W (e1 mUpper fo)) :=
  imE (pe_upper ho hbase hline) fun σ H Q h => rdE_mono (rd_e1 h) fun v H1 ⟨G, a, d, gh, ra, hg, k⟩ => by
    unfold mUpper at hg
    split at hg
    · rename_i x
      split at hg
      · rename_i hz
        cases (show v = .str x from ra)
        cases hg
        exact ⟨⟨x, rfl⟩, x, rfl, rfl, Nat.le_trans hz (by decide), k G H1 _ [] (Grow.refl gh) ⟨rfl, rfl⟩⟩
      · cases hg
    · cases hg
def strsD : List D → Option (List Str)
  | [] => some []
  | .str i :: r => (strsD r).map (i :: ·)
  | _ :: _ => none
theorem strsD_rep {G : Hp} : ∀ {ds : List D} {xs : List V} {ns : List Str}, RepFs C G ds xs → strsD ds = some ns → xs = ns.map V.str ∧ ds = ns.map .str
  | [], xs, ns, r, h => by cases h; exact ⟨r, rfl⟩
  | .str i :: ds, xs, ns, r, h => by
    obtain ⟨x, xr, rfl, h1, h2⟩ := r
    cases (show x = .str i from h1)
    cases q : strsD ds with
    | none => simp [strsD, q] at h
    | some ms =>
      simp [strsD, q] at h
      subst h
      obtain ⟨e1, e2⟩ := strsD_rep h2 q
      exact ⟨by rw [e1]; rfl, by rw [e2]; rfl⟩
  | .non :: _, _, _, _, h => by simp [strsD] at h
  | .bl _ :: _, _, _, _, h => by simp [strsD] at h
  | .int _ :: _, _, _, _, h => by simp [strsD] at h
  | .lst _ :: _, _, _, _, h => by simp [strsD] at h
  | .tup _ :: _, _, _, _, h => by simp [strsD] at h
  | .dic _ _ :: _, _, _, _, h => by simp [strsD] at h
  | .ins _ _ _ :: _, _, _, _, h => by simp [strsD] at h
  | .scr _ :: _, _, _, _, h => by simp [strsD] at h
  | .olst _ :: _, _, _, _, h => by simp [strsD] at h
  | .odic _ _ :: _, _, _, _, h => by simp [strsD] at h
  | .oins _ _ _ :: _, _, _, _, h => by simp [strsD] at h
theorem strsD_map : ∀ ns : List Str, strsD (ns.map .str) = some ns
  | [] => rfl
  | n :: ns => by simp [strsD, strsD_map ns]
def seqD : D → Option (List D)
  | .lst ds => some ds
  | .tup ds => some ds
  | _ => none
def mJoin : D → D → Option D
  | .str a, b => (seqD b).bind fun ds => (strsD ds).bind fun ys => if (ys.map (·.length)).sum + ys.length * a.length ≤ 100000 then some (.str (Txt.join a ys)) else none
  | _, _ => none
theorem pe_jn {o e : Expr} {apos pos : Pos} {fo fe : M D} (hK : X.K = C.K) (ho : PE X o (rdE C W fo)) (he : PE X e (rdE C W fe)) (hs : starEach [e] X.env = [(false, eval e X.env)] := by rfl) (hbase : attributeBase o "join" X.env (eval o X.env) = eval o X.env := by rfl) (hline : (apos.endLine == pos.line) = true := by rfl) (hstr : ∀ env d e', fo env = .ok d e' → ∃ x, d = .str x) :
    PE X (.Call (.Attribute o "join" apos) [e] [] pos) (rdE C W (e2 mJoin fo fe)) :=
  imE (pe_join ho he hs hbase hline) fun σ H Q h => by
    have q := rd_e2 h
    obtain ⟨B, G, env, hl, P, o⟩ := q
    refine ⟨B, G, env, hl, P, o.mono fun d e' hd q G1 H1 v l P1 => ?_⟩
    obtain ⟨x, rfl⟩ := hstr _ _ _ hd
    obtain ⟨fp, ro⟩ := at_last l P1
    cases (show v = .str x from ro.1)
    refine ⟨⟨x, rfl⟩, rdE_mono (q G1 H1 (.str x) l P1) fun w H2 ⟨G2, a, b, d, gh, ra, rb, hg, k⟩ => ?_⟩
    cases a with
    | str a =>
      cases (show V.str x = .str a from ra)
      unfold mJoin at hg
      cases hb : seqD b with
      | none => simp [hb] at hg
      | some ds =>
        cases hys : strsD ds with
        | none => simp [hb, hys] at hg
        | some ys =>
          simp only [hb, hys, Option.bind_some] at hg
          split at hg
          · rename_i hz
            cases hg
            cases b with
            | lst es =>
              cases hb
              obtain ⟨p, xs, rfl, hp, rs⟩ := rb
              obtain ⟨rfl, _⟩ := strsD_rep rs hys
              exact ⟨x, p, ys, rfl, rfl, .inl (.of (gh _ _ hp)), Nat.le_trans hz (by decide), k G2 H2 _ [] (Grow.refl gh) ⟨rfl, rfl⟩⟩
            | tup es =>
              cases hb
              obtain ⟨p, xs, rfl, hp, rs⟩ := rb
              obtain ⟨rfl, _⟩ := strsD_rep rs hys
              exact ⟨x, p, ys, rfl, rfl, .inr (hK ▸ seqT gh hp), Nat.le_trans hz (by decide), k G2 H2 _ [] (Grow.refl gh) ⟨rfl, rfl⟩⟩
            | _ => cases hb
          · cases hg
    | _ => simp [mJoin] at hg
end
end VL
namespace VL
open PySem PySem.Spec PyProof.Rows L2
section
variable {C : Ct} {W : WX} {X : Cx} {ios : List Nat}
/-! ### a op b op' c -/
def eChain (g g' : D → D → Option D) (fa fb fc : M D) : M D := fun env => (fa env).bind fun a e1 => (fb e1).bind fun b e2 => match g (frz a) (frz b) with
  | some (.bl true) => (fc e2).bind fun c e3 => ofO (g' (frz b) (frz c)) e3
  | some (.bl false) => .ok (.bl false) e2
  | _ => .no
theorem rd_chain {g g' : D → D → Option D} {fa fb fc : M D} {σ : L2.St} {H : Hp} {Q : VK} (h : rdE C W (eChain g g' fa fb fc) σ H Q) : tChain (rV2 C g) (rV2 C g') (rdE C W fa) (rdE C W fb) (rdE C W fc) σ H Q := by
  obtain ⟨B, G, env, hl, P, o⟩ := h
  have hx := at_len P hl
  refine ⟨B, G, env, hl, P, o.bind.mono fun a e1 _ o1 G1 H1 v1 l1 P1 => ?_⟩
  refine ⟨B.push v1 a, G1, e1, l1, P1, ?_⟩
  cases hb : fb e1 with
  | no => rw [hb] at o1; exact o1.elim
  | ex x e =>
    rw [hb] at o1
    intro G' H' cls dd he P' X'
    exact o1 G' H' cls dd he (push_pop P') X'
  | ok b e2 =>
    rw [hb] at o1
    have o2 : Out C W B σ (match g (frz a) (frz b) with
      | some (.bl true) => (fc e2).bind fun c e3 => ofO (g' (frz b) (frz c)) e3
      | some (.bl false) => .ok (.bl false) e2
      | _ => .no) fun d env' => ∀ G' H' v, env'.length = σ.length → (B.push v d).At C G' H' σ env' → Q v H' := o1
    intro G2 H2 v2 l2 P2
    have P2' : Post C B.G0 B.H0 B.io G2 H2 ((σ ++ B.xs) ++ [v1, v2].map some) ((e2 ++ B.ts) ++ [a, b].map some) := by
      unfold Bs.At Bs.push at P2
      simpa [List.append_assoc] using P2
    obtain ⟨G3, s3, P3, r3⟩ := Post.fzTail _ _ _ _ (by simp; omega) P2'
    obtain ⟨x, r, e3, ra, y, r', e4, rb, _⟩ := r3
    cases e3
    cases e4
    split at o2
    · rename_i hg
      refine ⟨G3, frz a, frz b, .bl true, P3.gh, ra, rb, hg, fun G4 H4 z fp gr ro => ⟨true, ro.1, iteT ?_⟩⟩
      have P4 := (P3.grow gr ro).pop
      have P4' : ((B.push v1 (frz a)).push v2 (frz b)).At C G4 H4 σ e2 := by
        unfold Bs.At Bs.push
        simpa [List.append_assoc, frzs] using P4
      refine ⟨(B.push v1 (frz a)).push v2 (frz b), G4, e2, l2, P4', ?_⟩
      cases hc : fc e2 with
      | no => rw [hc] at o2; exact o2.elim
      | ex x e =>
        rw [hc] at o2
        intro G' H' cls dd he P' X'
        exact o2 G' H' cls dd he (push_pop (push_pop P')) X'
      | ok c e3 =>
        rw [hc] at o2
        have o3 : Out C W B σ (ofO (g' (frz b) (frz c)) e3) fun d env' => ∀ G' H' v, env'.length = σ.length → (B.push v d).At C G' H' σ env' → Q v H' := o2
        intro G5 H5 v3 l3 P5
        have P5' : Post C B.G0 B.H0 B.io G5 H5 ((σ ++ B.xs) ++ [v1, v2, v3].map some) ((e3 ++ B.ts) ++ [frz a, frz b, c].map some) := by
          unfold Bs.At Bs.push at P5
          simpa [List.append_assoc] using P5
        obtain ⟨G6, s6, P6, r6⟩ := Post.fzTail _ _ _ _ (by simp; omega) P5'
        obtain ⟨x, r, e7, ra', y, r', e8, rb', z', r'', e9, rc', _⟩ := r6
        cases e7
        cases e8
        cases e9
        rw [frz_frz] at rb'
        cases hgc : g' (frz b) (frz c) with
        | none => rw [hgc] at o3; exact o3.elim
        | some d =>
          rw [hgc] at o3
          refine ⟨G6, frz b, frz c, d, P6.gh, rb', rc', hgc, fun G7 H7 w fp gr2 ro2 => o3 G7 H7 w l3 ?_⟩
          have := (P6.grow gr2 ro2).dropMid (by simp; omega)
          unfold Bs.At Bs.push
          simpa [List.append_assoc] using this
    · rename_i hg
      refine ⟨G3, frz a, frz b, .bl false, P3.gh, ra, rb, hg, fun G4 H4 z fp gr ro => ⟨false, ro.1, iteF (o2 G4 H4 _ l2 ?_)⟩⟩
      have P4 := (P3.grow gr ro).dropMid (by simp; omega)
      have hz : z = .bl false := ro.1
      subst hz
      unfold Bs.At Bs.push
      simpa [List.append_assoc] using P4
    · exact o2.elim
theorem pe_ch {op op' : CmpOp} {a b c : Expr} {pos : Pos} {g g' : D → D → Option D} {fa fb fc : M D} (ho : OpR X (compareOp op) (rV2 C g)) (ho' : OpR X (compareOp op') (rV2 C g')) (ha : PE X a (rdE C W fa)) (hb : PE X b (rdE C W fb)) (hc : PE X c (rdE C W fc))
    (hm : lastMarks [op, op'] [b, c] = false := by with_unfolding_all rfl) : PE X (.Compare a [op, op'] [b, c] pos) (rdE C W (eChain g g' fa fb fc)) := imE (pe_chain ho ho' ha hb hc hm) fun _ _ _ h => rd_chain h
theorem pt_ch {op op' : CmpOp} {a b c : Expr} {pos : Pos} {g g' : D → D → Option D} {fa fb fc : M D} (ho : OpR X (compareOp op) (rV2 C g)) (ho' : OpR X (compareOp op') (rV2 C g')) (ha : PE X a (rdE C W fa)) (hb : PE X b (rdE C W fb)) (hc : PE X c (rdE C W fc))
    (hm : lastMarks [op, op'] [b, c] = false := by with_unfolding_all rfl) : PT X (.Compare a [op, op'] [b, c] pos) (rdT C W (tst (eChain g g' fa fb fc))) := imT (pt_chain ho ho' ha hb hc hm) fun _ _ _ h => rd_chain (rd_tst h)
/-- a def as the top has written it -/
structure DefAt (K : PySem.W.Frag) (mg : Str → Option Value) (x : Str) (st : Stmt) (ps : List Str) (f : Addr) (fd : FuncData) : Prop where
  fn : Fun K x x st f fd
  g : mg x = some (.ref f)
  b : Binds K fd ps []
/-- a module's tuple of flat things -/
structure TupAt (K : PySem.W.Frag) (mg : Str → Option Value) (x : Str) (a : Addr) (vs : List V) : Prop where
  g : mg x = some (.ref a)
  t : ∀ H, SqT K H a vs
theorem repFs_flat {G : Hp} : ∀ {ds : List D} {vs : List V}, vs.length = ds.length → (∀ i : Nat, ∀ d v, ds[i]? = some d → vs[i]? = some v → RepF C G d v) → RepFs C G ds vs
  | [], vs, h, _ => List.eq_nil_of_length_eq_zero h
  | d :: ds, [], h, _ => by simp at h
  | d :: ds, v :: vs, h, k => ⟨v, vs, rfl, k 0 d v rfl rfl, repFs_flat (by simpa using h) fun i d' v' h1 h2 => k (i + 1) d' v' (by simpa using h1) (by simpa using h2)⟩
end
end VL
namespace L2
open PySem PySem.Spec PyProof.Rows
theorem Room.units65 {k : Nat} {A : Around} (r : Room k A) : A.units + 65 < cLine := by have := r.un; omega
end L2
namespace VL
open PySem PySem.Spec PyProof.Rows L2
section
variable {C : Ct} {W : WX} {X : Cx} {ios : List Nat}
theorem bt_len : bootBuiltins "len" = some (.builtin "len") := by decide +kernel
theorem bt_divmod : bootBuiltins "divmod" = some (.builtin "divmod") := by decide +kernel
theorem bt_max : bootBuiltins "max" = some (.builtin "max") := by decide +kernel
theorem bt_min : bootBuiltins "min" = some (.builtin "min") := by decide +kernel
theorem bt_sum : bootBuiltins "sum" = some (.builtin "sum") := by decide +kernel
theorem bt_all : bootBuiltins "all" = some (.builtin "all") := by decide +kernel
theorem bt_any : bootBuiltins "any" = some (.builtin "any") := by decide +kernel
theorem bt_sorted : bootBuiltins "sorted" = some (.builtin "sorted") := by decide +kernel
theorem bt_isinstance : bootBuiltins "isinstance" = some (.builtin "isinstance") := by decide +kernel
theorem bt_abs : bootBuiltins "abs" = some (.builtin "abs") := by decide +kernel
theorem bt_int : bootBuiltins "int" = some (.type "int") := by decide +kernel
theorem bt_bool : bootBuiltins "bool" = some (.type "bool") := by decide +kernel
theorem bt_str : bootBuiltins "str" = some (.type "str") := by decide +kernel
theorem bt_list : bootBuiltins "list" = some (.type "list") := by decide +kernel
theorem bt_tuple : bootBuiltins "tuple" = some (.type "tuple") := by decide +kernel
theorem bt_dict : bootBuiltins "dict" = some (.type "dict") := by decide +kernel
theorem bt_set : bootBuiltins "set" = some (.type "set") := by decide +kernel
theorem bt_range : bootBuiltins "range" = some (.type "range") := by decide +kernel
theorem bt_enumerate : bootBuiltins "enumerate" = some (.type "enumerate") := by decide +kernel
theorem bt_zip : bootBuiltins "zip" = some (.type "zip") := by decide +kernel
theorem bt_reversed : bootBuiltins "reversed" = some (.type "reversed") := by decide +kernel
/-! ### any thing that is gone through -/
def itemsA : D → Option (List D)
  | .lst ds => some ds
  | .tup ds => some ds
  | .scr ns => some (ns.map .int)
  | .str x => some (x.cps.toList.map fun c => .str ⟨#[c]⟩)
  | _ => none
def iAny (fe : M D) : M (List D) := fun env => (fe env).bind fun d e => ofO (itemsA (frz d)) e
theorem it_scr {ns : List Int} {v : V} {a : Addr} (hv : v = .ref a) : ItOk C (Itl C.K a) (.scr ns) v (ns.map .int) := fun G H r gh i => by
  obtain ⟨a', e, hs⟩ := r
  rw [hv] at e
  cases e
  have hs' := gh.seq hs
  refine ⟨fun d hd => ?_, fun hi => ?_⟩
  · rw [List.getElem?_map] at hd
    cases hn : ns[i]? with
    | none => rw [hn] at hd; cases hd
    | some n =>
      rw [hn] at hd
      cases hd
      have h1 : (ns.map V.int)[i]? = some (.int n) := by rw [List.getElem?_map, hn]; rfl
      refine ⟨⟨_, _, hs', h1⟩, fun x H' hy => ?_⟩
      obtain ⟨rfl, fv⟩ := hy
      have ev : x = .int n := Option.some.inj ((fv _ hs').symm.trans h1)
      exact ⟨G, .refl gh, ev⟩
  · exact ⟨_, hs', by simpa using hi⟩
theorem pi_any {tg e : Expr} {fe : M D} (hK : X.K = C.K) (h : PE X e (rdE C W fe)) : PI X tg e (rdI C W (iAny fe)) := by
  refine ⟨fun pins s σ H R I q => ?_⟩
  obtain ⟨B, G, env, hl, P, o⟩ := id q
  have o := o.bind
  cases hf : fe env with
  | no => rw [hf] at o; exact o.elim
  | ex x e' =>
    refine (pi_seq hK h).run pins s σ H R I ⟨B, G, env, hl, P, ?_⟩
    unfold iSeq
    rw [hf] at o ⊢
    exact o
  | ok d e' =>
    rw [hf] at o
    have seq : itemsA (frz d) = items (frz d) → wpAny (model X.prog X.w) X.A (eval e X.env) (fun v s1 => wpAny (model X.prog X.w) X.A (pyIter v) (PIE X pins σ tg R) X.xe s1) X.xe s := fun hd => by
      refine (pi_seq hK h).run pins s σ H R I ⟨B, G, env, hl, P, ?_⟩
      unfold iSeq
      rw [hf]
      show Out C W B σ (ofO (items (frz d)) e') _
      rw [← hd]
      exact o
    cases d with
    | lst es => exact seq rfl
    | olst es => exact seq rfl
    | tup es => exact seq rfl
    | str x =>
      refine (pi_tx h).run pins s σ H R I ⟨B, G, env, hl, P, ?_⟩
      unfold iStrM
      rw [hf]
      exact o
    | scr ns =>
      refine (pi_list (tl := rdE C W fe) h).run pins s σ H R I ⟨B, G, env, hl, P, ?_⟩
      rw [hf]
      intro G' H' v l P'
      obtain ⟨fp, ro⟩ := at_last l P'
      obtain ⟨a, rfl, hh⟩ := id ro.1
      have gh := (show Post _ _ _ _ _ _ _ _ from P').gh
      exact ⟨a, rfl, ⟨_, hK ▸ gh.seq hh⟩, o G' H' _ _ _ l P' rfl (hK ▸ it_scr rfl)⟩
    | _ => exact o.elim
/-! ### targets' lengths -/
theorem gl_0 : ∀ (ds : List D) (e u : Env), gsNil ds e = some u → ds.length = 0 := fun ds e u h => by
  cases ds with
  | nil => rfl
  | cons d r => cases h
theorem gl_1 {g : Tg} {gs : List D → Env → Option Env} {n : Nat} (h : ∀ (ds : List D) (e u : Env), gs ds e = some u → ds.length = n) : ∀ (ds : List D) (e u : Env), gsCons g gs ds e = some u → ds.length = n + 1 := fun ds e u q => by
  cases ds with
  | nil => cases q
  | cons d r =>
    unfold gsCons at q
    simp only at q
    cases hg : g d e with
    | none => rw [hg] at q; cases q
    | some e2 => rw [hg] at q; simp [h r e2 u q]
/-! ### x op= e -/
def sAug (i : Nat) (g : D → D → Option D) (fe : M D) : M Fl := fun env => match env[i]? with
  | some (some _) => (fe env).bind fun d e => match e[i]? with
    | some (some a) => (ofO (g (frz a) (frz d)) e).bind fun r e' => .ok .nx (e'.set i (some r))
    | _ => .no
  | _ => .no
theorem s_aug {x : Str} {e : Expr} {op : Operator} {pos pos' : Pos} {fe : M D} {g : D → D → Option D} (i : Nat) (hN : X.N.Nodup) (hi : X.N[i]? = some x) (hx : Loc X.env.scope x) (ho : PIp X op (rV2 C g)) (he : PE X e (rdE C W fe)) (hj : ∀ j ∈ ios, j ∉ [i] := by decide)
    (hf : X.fn x = true ∨ X.env.scope.names.lookup x = some .local := by first | exact .inl rfl | exact .inr rfl | assumption) : PS X (.AugAssign (.Name x pos') op e pos) (rdS C W ios (sAug i g fe)) :=
  imS (ps_aug hN hi hx he ho hf) fun D σ H ⟨B, G, env, hl, P, o⟩ => by
    unfold sAug at o
    split at o
    · rename_i d0 hd0
      have hi0 := (List.getElem?_eq_some_iff.mp hd0).1
      obtain ⟨fpf, O, _⟩ := id (show Post _ _ _ _ _ _ _ _ from P).own
      obtain ⟨x0, hx0, _⟩ := O.rep i d0 (by rw [List.getElem?_append_left hi0]; exact hd0)
      rw [List.getElem?_append_left (by omega)] at hx0
      refine ⟨x0, hx0, B, G, env, hl, P, o.of.mono fun d e1 _ o1 G1 H1 v l P1 => ?_⟩
      split at o1
      · rename_i a ha
        have hi1 := (List.getElem?_eq_some_iff.mp ha).1
        obtain ⟨G2, s2, P2, rd⟩ := rd_frz (fe := fe) (Q := fun _ _ => True) l P1
        have P2' : Post C B.G0 B.H0 B.io G2 H1 (σ ++ (B.push v (frz d)).xs) (e1 ++ (B.push v (frz d)).ts) := P2
        obtain ⟨G3, w, s3, hw, rw3, P3⟩ := P2'.freeze (i := i) (d := a) (by rw [List.getElem?_append_left hi1]; exact ha)
        rw [List.getElem?_append_left (by omega), hx0] at hw
        cases hw
        have P3' : (B.push v (frz d)).At C G3 H1 σ (e1.set i (some (frz a))) := by
          unfold Bs.At
          rw [List.set_append_left _ _ hi1] at P3
          exact P3
        cases hg : g (frz a) (frz d) with
        | none => rw [hg] at o1; exact o1.elim
        | some r =>
          rw [hg] at o1
          refine ⟨G3, frz a, frz d, r, P3.gh, rw3, RepF.mono s3 _ _ rd, hg, fun G4 H4 z fp gr ro => ?_⟩
          have P4 := Post.grow P3' gr ro
          have P5 : (B.push z r).At C G4 H4 σ (e1.set i (some (frz a))) := by
            have P4' : Post C B.G0 B.H0 B.io G4 H4 ((σ ++ B.xs) ++ [some v] ++ [some z]) ((e1.set i (some (frz a)) ++ B.ts) ++ [some (frz d)] ++ [some r]) := by
              unfold Bs.push at P4
              simpa [List.append_assoc] using P4
            have := Post.dropMid (A := σ ++ B.xs) (As := e1.set i (some (frz a)) ++ B.ts) P4' (by simp; have := at_len P hl; omega)
            unfold Bs.At Bs.push
            simpa [List.append_assoc] using this
          have P6 := at_set' (i := i) (by simpa using l) P5
          rw [List.set_set] at P6
          refine o1 G4 H4 _ (by simp) (by simpa using l) (fun j hj' => ?_) P6
          rw [List.getElem?_set_ne]
          rintro rfl
          exact hj _ hj' (by simp)
      · exact o1.elim
    · exact o.elim
theorem i_int {op : Operator} {f : Int → Int → Int} (h : PIp X op (ipI f)) : PIp X op (rV2 C (i2 (fun _ _ => true) fun i j => .int (f i j))) := by
  intro pins s σ H x y v u Q I r1 r2 ⟨G, a, b, d, gh, ra, rb, hg, k⟩
  obtain ⟨i, j, rfl, rfl, _, rfl⟩ := i2_inv hg
  exact h pins s σ H x y v u Q I r1 r2 ⟨i, j, ra, rb, k G H _ [] (.refl gh) ⟨rfl, rfl⟩⟩
def gAddI : D → D → Option D := i2 (fun _ _ => true) fun i j => .int (i + j)
theorem i_add : PIp X .Add (rV2 C gAddI) := i_int ip_add
/-! ### l.clear() -/
def mClear : List D → List D → Option (D × List D)
  | _, [] => some (.non, [])
  | _, _ => none
theorem ok_clear : MtOk C rClear mClear := fun G H a xs vs es ds d es' Q gh ga ha rx rv hg k => by
  cases ds with
  | cons _ _ => cases hg
  | nil =>
    cases hg
    have e : vs = [] := rv
    exact ⟨a, xs, rfl, e, ha, k .non [] rfl rfl⟩
theorem rdA_nil {σ : L2.St} {H : Hp} {Q : List V → Hp → Prop} (h : rdA C W aNil σ H Q) : Q [] H := by
  obtain ⟨B, G, env, hl, P, o⟩ := h
  refine o G H [] hl ?_ (fun j i z => by simp at z) rfl
  unfold Bs.At Bs.pushs
  simpa using (show Post _ _ _ _ _ _ _ _ from P)
theorem rd_mt0 {i : Nat} {r : V → List V → Hp → VK → Prop} {g : List D → List D → Option (D × List D)} {K : PySem.W.Frag} (hm : MtOk C r g) {σ : L2.St} {H : Hp} {Q : VK} (h : rdE C W (eMt i g aNil) σ H Q) : tBM0 K "list" r (tVar i) σ H Q := by
  obtain ⟨v, hv, ty, ra⟩ := rd_mt (K := K) hm h
  exact ⟨v, hv, ty, rdA_nil ra⟩
theorem pe_clear {x : Str} {pos apos cpos : Pos} (i : Nat) (ho : PE X (.Name x pos) (tVar i))
    (hbase : attributeBase (.Name x pos) "clear" X.env (eval (.Name x pos) X.env) = eval (.Name x pos) X.env := by rfl) (hline : (apos.endLine == cpos.line) = true := by rfl) :
    PE X (.Call (.Attribute (.Name x pos) "clear" apos) [] [] cpos) (rdE C W (eMt i mClear aNil)) :=
  imE (pe_bm0 PySem.F.plainAttrs_list PySem.F.slot_list_clear PySem.F.type_list_clear mt_clear ho hbase hline) fun _ _ _ h => rd_mt0 ok_clear h
def sRetN : M Fl := fun env => .ok (.rt .non) env
theorem s_retN {pos : Pos} : PS X (.Return none pos) (rdS C W ios sRetN) := imS ps_retN fun D σ H ⟨B, G, env, hl, P, o⟩ => o G H σ rfl hl (fun _ _ => rfl) .non (at_non P)
theorem relRef {a : Addr} : RelV (.ref a) (.ref a) := rfl
/-- a module's plain thing -/
structure ConAt (mg : Str → Option Value) (x : Str) (v : V) : Prop where
  e : ∃ u, mg x = some u ∧ RelV v u
theorem pe_con {x : Str} {v : V} {pos : Pos} (hg : Gl X x) (c : ConAt X.mg x v) (hd : (x == ("__debug__" : Str)) = false := by decide) : PE X (.Name x pos) (tC v) :=
  let ⟨_, h1, h2⟩ := c.e
  pe_glob hg h1 h2 hd
/-- {k: v} of two written things -/
theorem pe_d1 {k v : Expr} {pos : Pos} {x : Str} {z : V} {d : D} (hk : PE X k (tC (.str x))) (hv : PE X v (tC z)) (r : ∀ G, RepF C G d z := by intro G; rfl) : PE X (.Dict [some k] [v] pos) (rdE C W (eC (.dic [.inr x] [d]))) :=
  imE (pe_disp (pps_cons hk hv pps_nil) (by rfl) (by rfl) (fun z => by cases z) (by show 1 ≤ 15; decide)) fun σ H Q ⟨B, G, env, hl, P, o⟩ => fun p new => by
    refine ⟨upd_same, [(.inr x, z)], rfl, (by show 1 ≤ 15; decide), ?_⟩
    have e1 : upd (upd H p (.dK [])) p (.dK (mergeK [] [(.inr x, z)])) = upd H p (.dK [(.inr x, z)]) := by
      funext a
      by_cases h : a = p
      · subst h; rw [upd_same, upd_same]; rfl
      · rw [upd_ne h, upd_ne h, upd_ne h]
    rw [e1]
    have P0 : Post _ _ _ _ _ _ _ _ := P
    have ro : RepO C (upd G p (.dK [(.inr x, z)])) (upd H p (.dK [(.inr x, z)])) (.dic [.inr x] [d]) (.ref p) [] := ⟨⟨p, [z], rfl, upd_same, rfl, ⟨z, [], rfl, r _, rfl⟩⟩, rfl⟩
    have P1 := P0.grow (Grow.shared P0.gh new) ro
    refine o (upd G p (.dK [(.inr x, z)])) (upd H p (.dK [(.inr x, z)])) (.ref p) hl ?_
    unfold Bs.At Bs.push
    simpa [List.append_assoc] using P1
end
end VL
namespace VL
open PySem PySem.Spec PyProof.Rows L2
/-! ### the mirrors' own equations, for simp -/
section
variable {α β : Type} {env e : Env} {i : Nat} {fa fb fc fe : M D} {ft fu : M Bool} {a b : M Fl}
@[simp] theorem bind_ok {x : α} {k : α → Env → R β} : (R.ok x e).bind k = k x e := (rfl)
@[simp] theorem bind_no {k : α → Env → R β} : (R.no : R α).bind k = .no := (rfl)
@[simp] theorem bind_ex {x : Exc} {k : α → Env → R β} : (R.ex x e : R α).bind k = .ex x e := (rfl)
@[simp] theorem bind_ite {c : Prop} [Decidable c] {r s : R α} {k : α → Env → R β} : (if c then r else s).bind k = if c then r.bind k else s.bind k := by split <;> rfl
@[simp] theorem ofO_some' {x : α} : ofO (some x) e = .ok x e := (rfl)
@[simp] theorem ofO_none' : ofO (none : Option α) e = .no := (rfl)
@[simp] theorem ofT_some' : ofT (some e) = .ok .nx e := (rfl)
@[simp] theorem noEx_ok' {x : α} : noEx (R.ok x e) = .ok x e := (rfl)
@[simp] theorem eVar_ap : eVar i env = match env[i]? with
  | some (some d) => .ok (frz d) (env.set i (some (frz d)))
  | _ => .no := (rfl)
@[simp] theorem eMv_ap : eMv i env = match env[i]? with
  | some (some d) => .ok d (env.set i none)
  | _ => .no := (rfl)
@[simp] theorem eC_ap {d : D} : eC d env = .ok d env := (rfl)
@[simp] theorem e2_ap {g : D → D → Option D} : e2 g fa fb env = (fa env).bind fun a e1 => (fb e1).bind fun b e2 => ofO (g (frz a) (frz b)) e2 := (rfl)
@[simp] theorem e1_ap {g : D → Option D} : e1 g fa env = (fa env).bind fun a e1 => ofO (g (frz a)) e1 := (rfl)
@[simp] theorem isBl_bl {c : Bool} : isBl (.bl c) = some c := (rfl)
@[simp] theorem tst_ap : tst fe env = (fe env).bind fun d e => ofO (isBl d) e := (rfl)
@[simp] theorem tAndM_ap : tAndM ft fu env = (ft env).bind fun b e => if b then fu e else .ok false e := (rfl)
@[simp] theorem tOrM_ap : tOrM ft fu env = (ft env).bind fun b e => if b then .ok true e else fu e := (rfl)
@[simp] theorem tNotM_ap : tNotM ft env = (ft env).bind fun b e => .ok (!b) e := (rfl)
@[simp] theorem eAnd_ap : eAnd fa fb env = (tst fa env).bind fun b e => if b then fb e else .ok (.bl false) e := (rfl)
@[simp] theorem eOr_ap : eOr fa fb env = (tst fa env).bind fun b e => if b then .ok (.bl true) e else fb e := (rfl)
@[simp] theorem eNot_ap : eNot fa env = (tst fa env).bind fun b e => .ok (.bl (!b)) e := (rfl)
@[simp] theorem eIf_ap : eIf ft fa fb env = (ft env).bind fun b e => if b then fa e else fb e := (rfl)
@[simp] theorem aNil_ap : aNil env = .ok [] env := (rfl)
@[simp] theorem aCons_ap {fr : M (List AR)} : aCons fa fr env = (fa env).bind fun d e => (fr e).bind fun as e2 => .ok (.v d :: as) e2 := (rfl)
@[simp] theorem aOwn_ap {fr : M (List AR)} : aOwn fa fr env = (fa env).bind fun d e => (fr e).bind fun as e2 => .ok (.o d :: as) e2 := (rfl)
@[simp] theorem aSlot_ap {fr : M (List AR)} : aSlot i fr env = match env[i]? with
  | some (some _) => (fr env).bind fun as e2 => .ok (.s i :: as) e2
  | _ => .no := (rfl)
@[simp] theorem vals_nil : vals [] = some [] := (rfl)
@[simp] theorem vals_cons {d : D} {r : List AR} : vals (.v d :: r) = (vals r).map (d :: ·) := (rfl)
@[simp] theorem frzs_nil : frzs [] = [] := by unfold frzs; rfl
@[simp] theorem frzs_cons {d : D} {r : List D} : frzs (d :: r) = frz d :: frzs r := by rw [frzs]
@[simp] theorem frz_non : frz .non = .non := by unfold frz; exact (rfl)
@[simp] theorem frz_bl {c : Bool} : frz (.bl c) = .bl c := by unfold frz; exact (rfl)
@[simp] theorem frz_int {c : Int} : frz (.int c) = .int c := by unfold frz; exact (rfl)
@[simp] theorem frz_str {c : Str} : frz (.str c) = .str c := by unfold frz; exact (rfl)
@[simp] theorem frz_lst {c : List D} : frz (.lst c) = .lst c := by unfold frz; exact (rfl)
@[simp] theorem frz_tup {c : List D} : frz (.tup c) = .tup c := by unfold frz; exact (rfl)
@[simp] theorem frz_dic {k : List Key} {c : List D} : frz (.dic k c) = .dic k c := by unfold frz; exact (rfl)
@[simp] theorem frz_ins {k : Str} {n : List Str} {c : List D} : frz (.ins k n c) = .ins k n c := by unfold frz; exact (rfl)
@[simp] theorem frz_scr {c : List Int} : frz (.scr c) = .scr c := by unfold frz; exact (rfl)
@[simp] theorem frz_olst {c : List D} : frz (.olst c) = .lst (frzs c) := by rw [frz]
@[simp] theorem frz_odic {k : List Key} {c : List D} : frz (.odic k c) = .dic k (frzs c) := by rw [frz]
@[simp] theorem frz_oins {k : Str} {n : List Str} {c : List D} : frz (.oins k n c) = .ins k n (frzs c) := by rw [frz]
@[simp] theorem frz2 {d : D} : frz (frz d) = frz d := frz_frz d
@[simp] theorem eVs_ap {g : List D → Option D} {fa : M (List AR)} : eVs g fa env = (fa env).bind fun as e => ofO ((vals as).bind fun ds => g (frzs ds)) e := (rfl)
@[simp] theorem sSeq_ap : sSeq a b env = (a env).bind fun fl e => match fl with
  | .nx => b e
  | fl => .ok fl e := (rfl)
@[simp] theorem sPass_ap : sPass env = .ok .nx env := (rfl)
@[simp] theorem sBrk_ap : sBrk env = .ok .bk env := (rfl)
@[simp] theorem sCont_ap : sCont env = .ok .ct env := (rfl)
@[simp] theorem sRet_ap : sRet fe env = (fe env).bind fun d e => .ok (.rt d) e := (rfl)
@[simp] theorem sRetN_ap : sRetN env = .ok (.rt .non) env := (rfl)
@[simp] theorem sDrop_ap : sDrop fe env = (fe env).bind fun _ e => .ok .nx e := (rfl)
@[simp] theorem sIf_ap : sIf ft a b env = (ft env).bind fun c e => if c then a e else b e := (rfl)
@[simp] theorem gNm_ap {d : D} : gNm i d e = some (e.set i (some d)) := (rfl)
@[simp] theorem gsNil_ap : gsNil [] e = some e := (rfl)
@[simp] theorem gsCons_ap {g : Tg} {gs : List D → Env → Option Env} {d : D} {r : List D} : gsCons g gs (d :: r) e = (g d e).bind fun e2 => gs r e2 := (rfl)
@[simp] theorem gTp_ap {gs : List D → Env → Option Env} {ds : List D} : gTp gs (.tup ds) e = gs ds e := (rfl)
@[simp] theorem sAsg_ap {g : Tg} : sAsg fe g env = (fe env).bind fun d e => ofT (g d e) := (rfl)
@[simp] theorem iAny_ap : iAny fe env = (fe env).bind fun d e => ofO (itemsA (frz d)) e := (rfl)
@[simp] theorem iArgs_ap {r : List D → Option (List D)} {fa : M (List AR)} : iArgs r fa env = (fa env).bind fun as e => ofO ((vals as).bind fun ds => r (frzs ds)) e := (rfl)
@[simp] theorem sFor_ap {fi : M (List D)} {g : Tg} : sFor fi g b env = (fi env).bind fun l e => forL g b l e := (rfl)
@[simp] theorem forL_nil {g : Tg} : forL g b [] env = .ok .nx env := (rfl)
theorem forL_cons {g : Tg} {d : D} {r : List D} {e : Env} (h : g d env = some e) : forL g b (d :: r) env = (b e).bind fun fl e2 => match fl with
  | .nx => forL g b r e2
  | .ct => forL g b r e2
  | .bk => .ok .nx e2
  | .rt x => .ok (.rt x) e2 := by
  rw [forL, h]
  all_goals dsimp only
  all_goals (generalize b e = r')
  all_goals (cases r' with
    | no => rfl
    | ex x e => rfl
    | ok fl e2 => cases fl <;> rfl)
@[simp] theorem eLc_ap {fi : M (List D)} {g : Tg} {vs : List Nat} : eLc fi g ft fe vs env = (fi env).bind fun l e => lcL g ft fe vs l [] e := (rfl)
@[simp] theorem tYesM_ap : tYesM env = .ok true env := (rfl)
@[simp] theorem eChain_ap {g g' : D → D → Option D} : eChain g g' fa fb fc env = (fa env).bind fun a e1 => (fb e1).bind fun b e2 => (ofO ((g (frz a) (frz b)).bind isBl) e2).bind fun t e2 => if t then (fc e2).bind fun c e3 => ofO (g' (frz b) (frz c)) e3 else .ok (.bl false) e2 := by
  unfold eChain
  congr 1
  funext a e1
  congr 1
  funext b e2
  cases g (frz a) (frz b) with
  | none => rfl
  | some d =>
    cases d with
    | bl t => cases t <;> rfl
    | _ => rfl
@[simp] theorem ePk_ap : ePk fe env = (noEx (fe (env.map fzO))).bind fun d _ => if scalar d then .ok d env else .no := (rfl)
@[simp] theorem tPk_ap : tPk ft env = (noEx (ft (env.map fzO))).bind fun b _ => .ok b env := (rfl)
@[simp] theorem fzO_some {d : D} : fzO (some d) = some (frz d) := (rfl)
@[simp] theorem fzO_none : fzO none = none := (rfl)
@[simp] theorem scalar_int {c : Int} : scalar (.int c) = true := (rfl)
@[simp] theorem scalar_bl {c : Bool} : scalar (.bl c) = true := (rfl)
@[simp] theorem scalar_str {c : Str} : scalar (.str c) = true := (rfl)
@[simp] theorem scalar_non : scalar .non = true := (rfl)
@[simp] theorem eMt_ap {g : List D → List D → Option (D × List D)} {fa : M (List AR)} : eMt i g fa env = match env[i]? with
  | some (some (.olst _)) => (fa env).bind fun as e => match e[i]? with
    | some (some (.olst es)) => (match (vals as).bind fun ds => g (frzs es) (frzs ds) with
      | some (r, es') => .ok r (e.set i (some (.olst es')))
      | none => .no)
    | _ => .no
  | _ => .no := (rfl)
@[simp] theorem sSetIx_ap {fi fv : M D} : sSetIx i fi fv env = (fv env).bind fun v e1 => match e1[i]? with
  | some (some (.olst _)) => (fi e1).bind fun k e2 => (match frz k, e2[i]? with
    | .int k, some (some (.olst es)) => (match ixN es.length k with
      | some j => .ok .nx (e2.set i (some (.olst ((frzs es).set j (frz v)))))
      | none => .no)
    | _, _ => .no)
  | _ => .no := (rfl)
@[simp] theorem sAug_ap {g : D → D → Option D} : sAug i g fe env = match env[i]? with
  | some (some _) => (fe env).bind fun d e => match e[i]? with
    | some (some a) => (ofO (g (frz a) (frz d)) e).bind fun r e' => .ok .nx (e'.set i (some r))
    | _ => .no
  | _ => .no := (rfl)
@[simp] theorem eCall_ap {F : Fn} {ios : List Nat} {fa : M (List AR)} : eCall F ios fa env = (fa env).bind fun as e =>
  if sPos 0 as = ios ∧ (sSl as).Nodup then match argD e as with
    | none => .no
    | some ds => match F ds with
      | none => .no
      | some (.ret d, os) => if os.length = ios.length then .ok d (putAs e as os) else .no
      | some (.exc x, os) => if os.length = ios.length then .ex x (putAs e as os) else .no
  else .no := (rfl)
@[simp] theorem eSl_ap {g : D → Option Int → Option Int → Option D} {fl fu : M (Option Int)} : eSl g fe fl fu env = (fe env).bind fun d e1 => (fl e1).bind fun l e2 => (fu e2).bind fun u e3 => ofO (g (frz d) l u) e3 := (rfl)
@[simp] theorem oNo_ap : oNo env = .ok none env := (rfl)
@[simp] theorem oSo_ap : oSo fe env = (fe env).bind fun d e => ofO (intO d) e := (rfl)
@[simp] theorem intO_int {c : Int} : intO (.int c) = some (some c) := (rfl)
@[simp] theorem sPos_nil {n : Nat} : sPos n [] = [] := (rfl)
@[simp] theorem sPos_v {n : Nat} {d : D} {r : List AR} : sPos n (.v d :: r) = sPos (n + 1) r := (rfl)
@[simp] theorem sPos_s {n j : Nat} {r : List AR} : sPos n (.s j :: r) = n :: sPos (n + 1) r := (rfl)
@[simp] theorem sPos_o {n : Nat} {d : D} {r : List AR} : sPos n (.o d :: r) = n :: sPos (n + 1) r := (rfl)
@[simp] theorem sSl_nil : sSl [] = [] := (rfl)
@[simp] theorem sSl_v {d : D} {r : List AR} : sSl (.v d :: r) = sSl r := (rfl)
@[simp] theorem sSl_s {j : Nat} {r : List AR} : sSl (.s j :: r) = j :: sSl r := (rfl)
@[simp] theorem sSl_o {d : D} {r : List AR} : sSl (.o d :: r) = sSl r := (rfl)
@[simp] theorem argD_nil : argD e [] = some [] := (rfl)
@[simp] theorem argD_v {d : D} {r : List AR} : argD e (.v d :: r) = (argD e r).map (frz d :: ·) := (rfl)
@[simp] theorem argD_o {d : D} {r : List AR} : argD e (.o d :: r) = (argD e r).map (d :: ·) := (rfl)
@[simp] theorem argD_s {j : Nat} {r : List AR} : argD e (.s j :: r) = match e[j]? with
    | some (some d) => (argD e r).map (d :: ·)
    | _ => none := (rfl)
@[simp] theorem putAs_nil {os : List D} : putAs e [] os = e := by simp [putAs]
@[simp] theorem putAs_v {d : D} {r : List AR} {os : List D} : putAs e (.v d :: r) os = putAs e r os := by simp [putAs]
@[simp] theorem putAs_s {j : Nat} {r : List AR} {o : D} {os : List D} : putAs e (.s j :: r) (o :: os) = putAs (e.set j (some o)) r os := by simp [putAs]
@[simp] theorem putAs_o {d : D} {r : List AR} {o : D} {os : List D} : putAs e (.o d :: r) (o :: os) = putAs e r os := by simp [putAs]
@[simp] theorem runF_ap {n np : Nat} {ios : List Nat} {ds : List D} : runF n np ios b ds = if ds.length = np then resF ios (b (ds.map some ++ List.replicate (n - np) none)) else none := (rfl)
@[simp] theorem resF_rt {ios : List Nat} {d : D} : resF ios (.ok (.rt d) e) = (outs ios e).map fun os => (.ret d, os) := (rfl)
@[simp] theorem resF_nx {ios : List Nat} : resF ios (.ok .nx e) = (outs ios e).map fun os => (.ret .non, os) := (rfl)
@[simp] theorem outs_nil : outs [] e = some [] := (rfl)
@[simp] theorem outs_cons {j : Nat} {r : List Nat} : outs (j :: r) e = match e[j]? with
  | some (some d) => (outs r e).map (d :: ·)
  | _ => none := (rfl)
end
/-- the signs of a text -/
def sgD (x : Str) : List D := x.cps.toList.map fun c => .str ⟨#[c]⟩
/-! ### operators at their kinds -/
section
variable {i j : Int} {x y : Str} {ds es : List D}
@[simp] theorem gAdd_int : gAdd (.int i) (.int j) = some (.int (i + j)) := (rfl)
@[simp] theorem gSub_int : VL.gSub (.int i) (.int j) = some (.int (i - j)) := (rfl)
theorem gMul_int (h : mulC i j = true) : gMul (.int i) (.int j) = some (.int (i * j)) := by simp [gMul, alt, i2, h]
theorem gDiv_int (h : divC i j = true) : gDiv (.int i) (.int j) = some (.int (i / j)) := by simp [gDiv, i2, h]
theorem gMod_int (h : 0 < j) : gMod (.int i) (.int j) = some (.int (i % j)) := by simp [gMod, i2, h]
theorem gPow_int (h : powC i j = true) : gPow (.int i) (.int j) = some (.int (i ^ j.toNat)) := by simp [gPow, i2, h]
theorem gShl_int (h : powC i j = true) : gShl (.int i) (.int j) = some (.int (i * 2 ^ j.toNat)) := by simp [gShl, i2, h]
theorem gShr_int (h : 0 ≤ j) : gShr (.int i) (.int j) = some (.int (i / 2 ^ j.toNat)) := by simp [gShr, i2, h]
@[simp] theorem gBand_int : gBand (.int i) (.int j) = some (.int (Builtin.bitAnd i j)) := (rfl)
@[simp] theorem gBor_int : gBor (.int i) (.int j) = some (.int (Builtin.bitOr i j)) := (rfl)
@[simp] theorem gNeg_int : gNeg (.int i) = some (.int (-i)) := (rfl)
@[simp] theorem gLt_int : gLt (.int i) (.int j) = some (.bl (decide (i < j))) := (rfl)
@[simp] theorem gLe_int : gLe (.int i) (.int j) = some (.bl (decide (i ≤ j))) := (rfl)
@[simp] theorem gGt_int : gGt (.int i) (.int j) = some (.bl (decide (j < i))) := (rfl)
@[simp] theorem gGe_int : gGe (.int i) (.int j) = some (.bl (decide (j ≤ i))) := (rfl)
theorem okD_int {n : Nat} : okD (.int i) n = true := by cases n <;> rfl
theorem okD_bl {c : Bool} {n : Nat} : okD (.bl c) n = true := by cases n <;> rfl
theorem okD_non {n : Nat} : okD .non n = true := by cases n <;> rfl
theorem okD_str {n : Nat} : okD (.str x) n = PyData.strOk x := by cases n <;> rfl
@[simp] theorem eqD_int : eqD (.int i) (.int j) = (i == j) := by unfold eqD; rfl
@[simp] theorem eqD_str : eqD (.str x) (.str y) = (x == y) := by unfold eqD; rfl
@[simp] theorem eqD_bl {a b : Bool} : eqD (.bl a) (.bl b) = (a == b) := by unfold eqD; rfl
@[simp] theorem eqD_tup {a b : List D} : eqD (.tup a) (.tup b) = eqDs a b := by rw [eqD]
@[simp] theorem eqD_lst {a b : List D} : eqD (.lst a) (.lst b) = eqDs a b := by rw [eqD]
@[simp] theorem eqDs_nil : eqDs [] [] = true := by unfold eqDs; rfl
@[simp] theorem eqDs_cons {a b : D} {r s : List D} : eqDs (a :: r) (b :: s) = (eqD a b && eqDs r s) := by rw [eqDs]
theorem gEq_ok {a b : D} (h1 : okD a 20 = true) (h2 : okD b 20 = true) : gEq a b = some (.bl (eqD a b)) := by simp [gEq, eqG, h1, h2]
theorem gNe_ok {a b : D} (h1 : okD a 20 = true) (h2 : okD b 20 = true) : gNe a b = some (.bl (!eqD a b)) := by simp [gNe, eqG, h1, h2]
@[simp] theorem gEq_int : gEq (.int i) (.int j) = some (.bl (decide (i = j))) := by rw [gEq_ok okD_int okD_int, eqD_int]; rfl
@[simp] theorem gNe_int : gNe (.int i) (.int j) = some (.bl (!decide (i = j))) := by rw [gNe_ok okD_int okD_int, eqD_int]; rfl
@[simp] theorem gIx_scr {ns : List Int} : gIx (.scr ns) (.int i) = (atI ns i).map .int := (rfl)
@[simp] theorem gIx_lst : gIx (.lst ds) (.int i) = atI ds i := (rfl)
@[simp] theorem gIx_tup : gIx (.tup ds) (.int i) = atI ds i := (rfl)
@[simp] theorem bLen_lst : bLen [.lst ds] = some (.int ds.length) := (rfl)
@[simp] theorem bLen_tup : bLen [.tup ds] = some (.int ds.length) := (rfl)
@[simp] theorem bLen_scr {ns : List Int} : bLen [.scr ns] = some (.int ns.length) := (rfl)
theorem bLen_str (h : x.length ≤ 100000) : bLen [.str x] = some (.int x.length) := by simp [bLen, h]
theorem bDivmod_int (h : divC i j = true) : bDivmod [.int i, .int j] = some (.tup [.int (i / j), .int (i % j)]) := by simp [bDivmod, h]
@[simp] theorem bMax2_int : bMax2 [.int i, .int j] = some (.int (if j > i then j else i)) := (rfl)
@[simp] theorem bMin2_int : bMin2 [.int i, .int j] = some (.int (if j < i then j else i)) := (rfl)
@[simp] theorem bList_lst : bList [.lst ds] = some (.olst ds) := (rfl)
@[simp] theorem bList_tup : bList [.tup ds] = some (.olst ds) := (rfl)
@[simp] theorem bTuple_lst : bTuple [.lst ds] = some (.tup ds) := (rfl)
@[simp] theorem bTuple_tup : bTuple [.tup ds] = some (.tup ds) := (rfl)
@[simp] theorem itemsA_lst : itemsA (.lst ds) = some ds := (rfl)
@[simp] theorem itemsA_tup : itemsA (.tup ds) = some ds := (rfl)
@[simp] theorem itemsA_scr {ns : List Int} : itemsA (.scr ns) = some (ns.map .int) := (rfl)
@[simp] theorem itemsA_str : itemsA (.str x) = some (sgD x) := (rfl)
theorem gTup_ok (h : ds.length ≤ 1000) : gTup ds = some (.tup ds) := by simp [gTup, h]
theorem gLst_ok (h : ds.length ≤ 1000) : gLst ds = some (.olst ds) := by simp [gLst, h]
theorem atI_nat' {α : Type} {xs : List α} {j : Nat} {v : α} (h : xs[j]? = some v) : atI xs (j : Int) = some v := atI_nat h
@[simp] theorem ixN_zero {n : Nat} (h : 0 < n) : ixN n 0 = some 0 := by
  unfold ixN; simp; omega
end
theorem gAdd_lst {a b : List D} (h : a.length + b.length ≤ 100000) : gAdd (.lst a) (.lst b) = some (.olst (a ++ b)) := by simp [gAdd, alt, i2, catS, s2, catL, h]
theorem gAdd_str {x y : Str} (h : x.length + y.length ≤ 100000) : gAdd (.str x) (.str y) = some (.str (x ++ y)) := by simp [gAdd, alt, i2, catS, s2, h]
theorem gMul_str {x : Str} {n : Int} (h1 : 0 ≤ n) (h2 : n ≤ 1000) (h3 : x.length ≤ 1000) : gMul (.str x) (.int n) = some (.str (Txt.mul x n)) := by simp [gMul, alt, i2, mulS, h1, h2, h3]
theorem gIx_str {z : Str} {i : Int} (h : z.length ≤ 100000) : gIx (.str z) (.int i) = (atI z.cps.toList i).map fun c => .str ⟨#[c]⟩ := by simp [gIx, h]
theorem mUpper_str {x : Str} (h : x.length ≤ 100000) : mUpper (.str x) = some (.str (Txt.upper x)) := by simp [mUpper, h]
@[simp] theorem gIsi_str {T : String} {x : Str} : gIsi T (.str x) = some (.bl (isB "str" T)) := (rfl)
@[simp] theorem gIsi_bl {T : String} {x : Bool} : gIsi T (.bl x) = some (.bl (isB "bool" T)) := (rfl)
@[simp] theorem gIsi_int {T : String} {x : Int} : gIsi T (.int x) = some (.bl (isB "int" T)) := (rfl)
@[simp] theorem gIsi_non {T : String} : gIsi T .non = some (.bl (isB "NoneType" T)) := (rfl)
@[simp] theorem gIsi_lst {T : String} {x : List D} : gIsi T (.lst x) = some (.bl (isB "list" T)) := (rfl)
@[simp] theorem gIsi_tup {T : String} {x : List D} : gIsi T (.tup x) = some (.bl (isB "tuple" T)) := (rfl)
/-- a in b, of texts -/
def subS (a b : Str) : Bool := !(Builtin.Str.occurrences b a 0 b.length 1).isEmpty
@[simp] theorem gIn_str {a b : Str} : gIn (.str a) (.str b) = some (.bl (subS a b)) := (rfl)
@[simp] theorem gNotIn_str {a b : Str} : gNotIn (.str a) (.str b) = some (.bl (!subS a b)) := (rfl)
theorem gIn_lst {a : D} {ds : List D} (h1 : okD a 20 = true) (h2 : okDs ds 19 = true) : gIn a (.lst ds) = some (.bl (anyEq a ds)) := by
  cases a <;> simp [gIn, alt, inStr, s2, inLst, h1, h2]
theorem gNotIn_lst {a : D} {ds : List D} (h1 : okD a 20 = true) (h2 : okDs ds 19 = true) : gNotIn a (.lst ds) = some (.bl (!anyEq a ds)) := by
  cases a <;> simp [gNotIn, alt, inStr, s2, inLst, h1, h2]
theorem gIn_tup {a : D} {ds : List D} (h1 : flatD a = true) (h2 : ds.all flatD = true) : gIn a (.tup ds) = some (.bl (anyEq a ds)) := by
  have h2' : ∀ x ∈ ds, flatD x = true := List.all_eq_true.mp h2
  cases a <;> simp [gIn, alt, inStr, s2, inLst, inTup, h1] <;> exact h2'
theorem gNotIn_tup {a : D} {ds : List D} (h1 : flatD a = true) (h2 : ds.all flatD = true) : gNotIn a (.tup ds) = some (.bl (!anyEq a ds)) := by
  have h2' : ∀ x ∈ ds, flatD x = true := List.all_eq_true.mp h2
  cases a <;> simp [gNotIn, alt, inStr, s2, inLst, inTup, h1] <;> exact h2'
@[simp] theorem frzs_strs : ∀ ys : List Str, frzs (ys.map .str) = ys.map .str
  | [] => frzs_nil
  | y :: r => by rw [List.map_cons, frzs_cons, frzs_strs r, frz_str]
@[simp] theorem frzs_intl : ∀ ys : List Int, frzs (ys.map .int) = ys.map .int
  | [] => frzs_nil
  | y :: r => by rw [List.map_cons, frzs_cons, frzs_intl r, frz_int]
theorem mJoin_lst {a : Str} {ys : List Str} (h : (ys.map (·.length)).sum + ys.length * a.length ≤ 100000) : mJoin (.str a) (.lst (ys.map .str)) = some (.str (Txt.join a ys)) := by
  show ((some (ys.map D.str)).bind fun ds => (strsD ds).bind fun ys => if (ys.map (·.length)).sum + ys.length * a.length ≤ 100000 then some (D.str (Txt.join a ys)) else none) = some (D.str (Txt.join a ys))
  rw [Option.bind_some, strsD_map, Option.bind_some, if_pos h]
@[simp] theorem frzs_len {es : List D} : (frzs es).length = es.length := frzs_length es
/-- both ways end alike: one -/
theorem mAnd {p : Prop} [Decidable p] {c : Bool} {e : Env} : (if p then R.ok (D.bl c) e else R.ok (D.bl false) e) = R.ok (.bl (decide p && c)) e := by
  by_cases h : p <;> simp [h]
theorem mOr {p : Prop} [Decidable p] {c : Bool} {e : Env} : (if p then R.ok (D.bl true) e else R.ok (D.bl c) e) = R.ok (.bl (decide p || c)) e := by
  by_cases h : p <;> simp [h]
theorem mAndT {p : Prop} [Decidable p] {c : Bool} {e : Env} : (if p then R.ok c e else R.ok false e) = R.ok (decide p && c) e := by
  by_cases h : p <;> simp [h]
theorem mOrT {p : Prop} [Decidable p] {c : Bool} {e : Env} : (if p then R.ok true e else R.ok c e) = R.ok (decide p || c) e := by
  by_cases h : p <;> simp [h]
/-! ### guards -/
theorem divC_ok {n m : Int} (h1 : 0 < m) (h2 : m < 2 ^ 200) : divC n m = true := by
  unfold divC; rw [decide_eq_true h1, decide_eq_true h2]; rfl
theorem mulC_l {i j : Int} (h1 : -(2 ^ 64) < i) (h2 : i < 2 ^ 64) : mulC i j = true := by
  unfold mulC; rw [decide_eq_true h1, decide_eq_true h2]; rfl
theorem mulC_r {i j : Int} (h1 : -(2 ^ 64) < j) (h2 : j < 2 ^ 64) : mulC i j = true := by
  unfold mulC; rw [decide_eq_true h1, decide_eq_true h2]; simp
theorem powC_ok {i j : Int} (h1 : 0 ≤ j) (h2 : j ≤ 1000000) (h3 : -(2 ^ 64) < i) (h4 : i < 2 ^ 64) : powC i j = true := by
  unfold powC; rw [decide_eq_true h1, decide_eq_true h2, decide_eq_true h3, decide_eq_true h4]; rfl
theorem in62_ok {j : Int} (h1 : -(2 ^ 62) ≤ j) (h2 : j < 2 ^ 62) : in62 j = true := by
  unfold in62; rw [decide_eq_true h1, decide_eq_true h2]; rfl
theorem rng1_ok {j : Int} (h1 : -(2 ^ 62) ≤ j) (h2 : j < 2 ^ 62) : rng1 [.int j] = some (rangeD 0 j) := by simp [rng1, in62_ok h1 h2]
theorem rng2_ok {i j : Int} (h1 : -(2 ^ 62) ≤ i) (h2 : i < 2 ^ 62) (h3 : -(2 ^ 62) ≤ j) (h4 : j < 2 ^ 62) : rng2 [.int i, .int j] = some (rangeD i j) := by simp [rng2, in62_ok h1 h2, in62_ok h3 h4]
theorem rangeD_get {lo hi : Int} {i : Nat} {d : D} (h : (rangeD lo hi)[i]? = some d) : d = .int (lo + i) ∧ i < (hi - lo).toNat := by
  unfold rangeD at h
  rw [List.getElem?_map] at h
  cases e : (List.range (hi - lo).toNat)[i]? with
  | none => rw [e] at h; cases h
  | some k =>
    rw [e] at h
    obtain ⟨h1, h2⟩ := List.getElem?_eq_some_iff.mp e
    simp at h1 h2
    subst h2
    exact ⟨(Option.some.inj h).symm, by simpa using h1⟩
theorem rangeD_length {lo hi : Int} : (rangeD lo hi).length = (hi - lo).toNat := by simp [rangeD]
theorem rangeD_get' {lo hi : Int} {i : Nat} (h : i < (hi - lo).toNat) : (rangeD lo hi)[i]? = some (.int (lo + i)) := by simp [rangeD, h]
/-! ### loops by an invariant -/
/-- the turns from the i-th on; P: what holds ahead of a turn, Q: what is wished of the end -/
theorem forL_ind {g : Tg} {b : M Fl} {items : List D} (P : Nat → Env → Prop) (Q : R Fl → Prop) (turn : ∀ (i : Nat) (d : D) (env : Env), items[i]? = some d → P i env → ∃ e, g d env = some e ∧ (match b e with
    | .ok .nx e2 => P (i + 1) e2
    | .ok .ct e2 => P (i + 1) e2
    | .ok .bk e2 => Q (.ok .nx e2)
    | .ok (.rt x) e2 => Q (.ok (.rt x) e2)
    | _ => False)) (fin : ∀ env, P items.length env → Q (.ok .nx env)) {env : Env} (start : P 0 env) : Q (forL g b items env) := by
  have main : ∀ (l : List D) (n : Nat) (env : Env), items.drop n = l → n ≤ items.length → P n env → Q (forL g b l env) := by
    intro l
    induction l with
    | nil =>
      intro n env h hn p
      have : n = items.length := by
        have := congrArg List.length h
        simp at this; omega
      subst this
      exact fin env p
    | cons d r ih =>
      intro n env h hn p
      have hd : items[n]? = some d := by rw [← List.head?_drop, h]; rfl
      have hlt := (List.getElem?_eq_some_iff.mp hd).1
      have hr : items.drop (n + 1) = r := by rw [← List.tail_drop, h]; rfl
      obtain ⟨e, he, k⟩ := turn n d env hd p
      rw [forL_cons he]
      cases hb : b e with
      | no => rw [hb] at k; exact k.elim
      | ex x e' => rw [hb] at k; exact k.elim
      | ok fl e2 =>
        rw [hb] at k
        cases fl with
        | nx => exact ih (n + 1) e2 hr hlt k
        | ct => exact ih (n + 1) e2 hr hlt k
        | bk => exact k
        | rt x => exact k
  exact main items 0 env rfl (Nat.zero_le _) start
/-- a comprehension's turns -/
theorem lcL_ind {g : Tg} {ft : M Bool} {fe : M D} {vs : List Nat} {items : List D} (P : Nat → List D → Env → Prop) (Q : R D → Prop) (turn : ∀ (i : Nat) (d : D) (acc : List D) (env : Env), items[i]? = some d → P i acc env → ∃ e, g d (wipeE env vs) = some e ∧ (match ft e with
    | .ok true e2 => (match fe e2 with
      | .ok y e3 => acc.length < 100000 ∧ P (i + 1) (acc ++ [y]) e3
      | _ => False)
    | .ok false e2 => P (i + 1) acc e2
    | _ => False)) (fin : ∀ acc env, P items.length acc env → Q (.ok (.olst acc) (wipeE env vs))) {env : Env} {acc : List D} (start : P 0 acc env) : Q (lcL g ft fe vs items acc env) := by
  have main : ∀ (l : List D) (n : Nat) (acc : List D) (env : Env), items.drop n = l → n ≤ items.length → P n acc env → Q (lcL g ft fe vs l acc env) := by
    intro l
    induction l with
    | nil =>
      intro n acc env h hn p
      have : n = items.length := by
        have := congrArg List.length h
        simp at this; omega
      subst this
      exact fin acc env p
    | cons d r ih =>
      intro n acc env h hn p
      have hd : items[n]? = some d := by rw [← List.head?_drop, h]; rfl
      have hlt := (List.getElem?_eq_some_iff.mp hd).1
      have hr : items.drop (n + 1) = r := by rw [← List.tail_drop, h]; rfl
      obtain ⟨e, he, k⟩ := turn n d acc env hd p
      rw [lcL, he]
      dsimp only
      cases hb : ft e with
      | no => rw [hb] at k; exact k.elim
      | ex x e' => rw [hb] at k; exact k.elim
      | ok c e2 =>
        rw [hb] at k
        cases c with
        | false => exact ih (n + 1) acc e2 hr hlt k
        | true =>
          dsimp only at k
          cases hf : fe e2 with
          | no => rw [hf] at k; exact k.elim
          | ex x e' => rw [hf] at k; exact k.elim
          | ok y e3 =>
            rw [hf] at k
            have := ih (n + 1) (acc ++ [y]) e3 hr hlt k.2
            simpa [hf, k.1] using this
  exact main items 0 acc env rfl (Nat.zero_le _) start
@[simp] theorem wipeE_nil {e : Env} : wipeE e [] = e := (rfl)
@[simp] theorem wipeE_cons {e : Env} {v : Nat} {vs : List Nat} : wipeE e (v :: vs) = (wipeE e vs).set v none := (rfl)
/-- the law's own call -/
theorem spV_law {C : Ct} {F : Fn} {a : Addr} {ns : List Int} {H : Hp} {Q : VK} {E : XK} (h : F [.scr ns] = some (.ret (.bl true), [])) (hS : SqL C.K H a (ns.map V.int)) (q : ∀ H', Q (.bl true) H') : spV C [] F [.ref a] H Q E := by
  have P0 : Post C H H [] H H [] [] := ⟨Same.refl _, Same.refl _, fun _ _ h _ => h, fun _ h => h, fun _ _ _ h => h, fun _ => [], ⟨rfl, fun i d h => by simp at h, fun _ => .nil, fun _ _ _ h => (nomatch h), fun _ _ h => (nomatch h), fun _ _ h => (nomatch h)⟩, fun _ _ h => (nomatch h)⟩
  have P1 := P0.push (d := .scr ns) (v := .ref a) ⟨a, rfl, hS⟩
  refine ⟨H, [], [.scr ns], P1, ?_⟩
  rw [h]
  intro G' H' v P'
  obtain ⟨fpf, O, _⟩ := P'.own
  obtain ⟨w, hw, r⟩ := O.rep 0 (.bl true) (by simp)
  simp at hw
  subst hw
  have : v = .bl true := r.1
  rw [this]
  exact q _
end VL
namespace VL
open PySem PySem.Spec PyProof.Rows L2
section
variable {C : Ct} {W : WX} {X : Cx} {ios : List Nat}
/-! ### a class -/
structure ClsAt (K : PySem.W.Frag) (mg : Str → Option Value) (c : Str) (A : Addr) : Prop where
  g : mg c = some (.ref A)
  cl : Cls K A
  kp : PySem.W.keepIn K (.ref A) = true
  mks : PySem.W.makesIn K A = true
  ty : ∀ (H : Hp) (a dx : Addr) (fs : List (Str × V)), H a = some (.ins A dx fs) → TyOf K H (.ref a) (.ref A)
/-! ### a new instance -/
theorem Post.rotL {G0 H0 G H : Hp} {io : List Addr} {A M : List (Option V)} {As Ms : List (Option D)} {v : Option V} {d : Option D} (P : Post C G0 H0 io G H (A ++ M ++ [v]) (As ++ Ms ++ [d])) (hl : A.length = As.length) (hm : M.length = Ms.length) : Post C G0 H0 io G H (A ++ v :: M) (As ++ d :: Ms) := by
  refine P.sub (fun i => if i < As.length then some i else if i = As.length then some (As.length + Ms.length) else if i < As.length + Ms.length + 1 then some (i - 1) else none) (by simp; omega) (fun i e hd => ?_) fun a b j h1 h2 => ?_
  · have hi := (List.getElem?_eq_some_iff.mp hd).1
    simp only [List.length_append, List.length_cons] at hi
    by_cases h : i < As.length
    · refine ⟨i, if_pos h, ?_, ?_⟩
      · rw [List.getElem?_append_left h] at hd
        rw [List.append_assoc, List.getElem?_append_left h]; exact hd
      · rw [List.getElem?_append_left (by omega), List.append_assoc, List.getElem?_append_left (by omega)]
    · by_cases h2 : i = As.length
      · subst h2
        refine ⟨As.length + Ms.length, by rw [if_neg (by omega), if_pos rfl], ?_, ?_⟩
        · rw [List.getElem?_append_right (by omega)] at hd
          simp at hd
          rw [List.getElem?_append_right (by simp)]
          simp [hd]
        · rw [List.getElem?_append_right (by omega), List.getElem?_append_right (by simp; omega)]
          simp [hl, hm]
      · obtain ⟨k, rfl⟩ : ∃ k, i = As.length + (k + 1) := ⟨i - As.length - 1, by omega⟩
        refine ⟨As.length + k, by rw [if_neg (by omega), if_neg (by omega), if_pos (by omega)]; congr 1, ?_, ?_⟩
        · rw [List.getElem?_append_right (by omega), show As.length + (k + 1) - As.length = k + 1 by omega, List.getElem?_cons_succ] at hd
          rw [List.append_assoc, List.getElem?_append_right (by omega), List.getElem?_append_left (by omega), show As.length + k - As.length = k by omega]; exact hd
        · rw [List.getElem?_append_right (by omega), show As.length + (k + 1) - A.length = k + 1 by omega, List.getElem?_cons_succ, List.append_assoc, List.getElem?_append_right (by omega), List.getElem?_append_left (by omega), show As.length + k - A.length = k by omega]
  · have key : ∀ i j : Nat, (if i < As.length then some i else if i = As.length then some (As.length + Ms.length) else if i < As.length + Ms.length + 1 then some (i - 1) else none) = some j → (i < As.length ∧ j = i) ∨ (i = As.length ∧ j = As.length + Ms.length) ∨ (As.length < i ∧ i < As.length + Ms.length + 1 ∧ j = i - 1) := by
      intro i j h
      by_cases c1 : i < As.length
      · rw [if_pos c1] at h; exact .inl ⟨c1, (Option.some.inj h).symm⟩
      · rw [if_neg c1] at h
        by_cases c2 : i = As.length
        · rw [if_pos c2] at h; exact .inr (.inl ⟨c2, (Option.some.inj h).symm⟩)
        · rw [if_neg c2] at h
          by_cases c3 : i < As.length + Ms.length + 1
          · rw [if_pos c3] at h; exact .inr (.inr ⟨by omega, c3, (Option.some.inj h).symm⟩)
          · rw [if_neg c3] at h; cases h
    have k1 := key a j h1
    have k2 := key b j h2
    omega
def eMake (c : Str) (F : Fn) (ios : List Nat) (fa : M (List AR)) : M D := fun env => (fa env).bind fun as e =>
  if sPos 0 (.o (.oins c [] []) :: as) = ios ∧ (sSl as).Nodup then match argD e (.o (.oins c [] []) :: as) with
    | none => .no
    | some ds => match F ds with
      | some (.ret .non, o :: os) => if os.length + 1 = ios.length then .ok o (putAs e as os) else .no
      | some (.exc x, _ :: os) => if os.length + 1 = ios.length then .ex x (putAs e as os) else .no
      | _ => .no
  else .no
theorem rd_make {c : Str} {A : Addr} {F : Fn} {cios : List Nat} {fa : M (List AR)} {σ : L2.St} {H : Hp} {Q : VK} (hm : C.mg c = some (.ref A)) (h : rdE C W (eMake c F cios fa) σ H Q) : tMake A (spV C cios F) [] (fun cls dd H2 => W cls dd σ H2) (rdA C W fa) σ H Q := by
  obtain ⟨B, G, env, hl, P, o⟩ := h
  have hx := at_len P hl
  refine ⟨B, G, env, hl, P, o.bind.mono fun as e _ q G1 H1 vs l1 P1 hs hn => ?_⟩
  intro x dx nx ndx ne
  rw [List.append_nil]
  split at q
  · rename_i hcond
    obtain ⟨hpos, hnd⟩ := hcond
    cases ha : argD e (.o (.oins c [] []) :: as) with
    | none => rw [ha] at q; exact q.elim
    | some ds =>
      rw [ha] at q
      have P1' : Post C B.G0 B.H0 B.io G1 H1 ((σ ++ B.xs) ++ vs.map some) ((e ++ B.ts) ++ as.map AR.d) := by
        unfold Bs.At Bs.pushs at P1
        simpa [List.append_assoc] using P1
      have gg : Grow G1 H1 G1 (upd (upd H1 dx (.own x)) x (.ins A dx [])) [x, dx] := by
        have s1 : Same H1 (upd (upd H1 dx (.own x)) x (.ins A dx [])) := (Same.new ndx).trans (Same.new (by rw [upd_ne ne.symm]; exact nx))
        refine ⟨Same.refl _, s1, P1'.gh.trans s1, fun a _ hg => hg, by simp [ne.symm], fun p hp => ?_⟩
        simp only [List.mem_cons, List.not_mem_nil, or_false] at hp
        rcases hp with rfl | rfl
        · exact ⟨nx, same_none P1'.gh nx⟩
        · exact ⟨ndx, same_none P1'.gh ndx⟩
      have ro : RepO C G1 (upd (upd H1 dx (.own x)) x (.ins A dx [])) (.oins c [] []) (.ref x) [x, dx] := ⟨x, A, dx, [], [], rfl, hm, upd_same, by rw [upd_ne ne, upd_same], rfl, ⟨rfl, rfl⟩, rfl⟩
      have P2 := P1'.grow gg ro
      have P3 := P2.rotL (by simp; omega) (by simp [hn])
      have P4 : (B.pushs (.ref x :: vs) (.o (.oins c [] []) :: as)).At C G1 (upd (upd H1 dx (.own x)) x (.ins A dx [])) σ e := by
        unfold Bs.At Bs.pushs
        simpa [List.append_assoc, AR.d] using P3
      refine call_core (as := .o (.oins c [] []) :: as) hx l1 P4 (fun j i hj => ?_) (by simp [hn]) hpos hnd ha ?_
      · cases j with
        | zero => simp at hj
        | succ j => simpa using hs j i (by simpa using hj)
      · cases hF : F ds with
        | none => simp only [hF] at q; exact q.elim
        | some r =>
          obtain ⟨r, os⟩ := r
          cases r with
          | exc y =>
            cases os with
            | nil => simp only [hF] at q; exact q.elim
            | cons o1 os =>
              simp only [hF] at q ⊢
              split at q
              · rename_i hos
                refine ⟨by simpa using hos, fun G' H' cls dd M' m1 R X' => q G' H' cls dd (by rw [putAs_length]; exact l1) ?_ X'⟩
                rw [show putAs e (.o (.oins c [] []) :: as) (o1 :: os) = putAs e as os from by simp [putAs]] at R
                have := Post.dropTail (A := σ ++ B.xs) (As := putAs e as os ++ B.ts) R (by simp [putAs_length]; omega)
                unfold Bs.At
                simpa [List.append_assoc] using this
              · exact q.elim
          | ret d =>
            cases os with
            | nil => simp only [hF] at q; cases d <;> exact q.elim
            | cons o1 os =>
              have hd : d = .non := by
                cases d with
                | non => rfl
                | _ => simp only [hF] at q; exact q.elim
              subst hd
              simp only [hF] at q ⊢
              split at q
              · rename_i hos
                refine ⟨by simpa using hos, fun G' H' v M' m1 m2 R => ?_⟩
                rw [show putAs e (.o (.oins c [] []) :: as) (o1 :: os) = putAs e as os from by simp [putAs]] at R
                obtain ⟨fpf, O, _⟩ := id R.own
                have hv : v = .non := by
                  have hL := O.len
                  obtain ⟨w, hw, rw'⟩ := O.rep (putAs e as os ++ B.ts ++ M').length .non (by rw [List.getElem?_append_right (Nat.le_refl _)]; simp)
                  rw [List.getElem?_append_right (by simp at hL ⊢; omega)] at hw
                  have : (putAs e as os ++ B.ts ++ M').length - (σ ++ B.xs ++ (V.ref x :: vs).map some).length = 0 := by simp at hL ⊢; omega
                  rw [this] at hw
                  simp at hw
                  subst hw
                  exact rw'.1
                refine ⟨hv, q G' H' (.ref x) (by rw [putAs_length]; exact l1) ?_⟩
                have m3 := m2 _ rfl
                cases M' with
                | nil => simp at m3
                | cons z M' =>
                  simp at m3
                  subst m3
                  have R2 : Post C B.G0 B.H0 B.io G' H' (((σ ++ B.xs) ++ [some (.ref x)]) ++ (vs.map some ++ [some v])) (((putAs e as os ++ B.ts) ++ [some o1]) ++ (M' ++ [some .non])) := by
                    simpa [List.append_assoc] using R
                  have R3 := R2.dropTail (by simp [putAs_length]; omega)
                  unfold Bs.At Bs.push
                  simpa [List.append_assoc] using R3
              · exact q.elim
  · exact q.elim
theorem pe_mk {F : Fn} {cios : List Nat} {k : Nat} {f A : Addr} {fd : FuncData} {ps : List Str} {x : Str} {p pos : Pos} {e : Expr} {es : List Expr} {fa : M (List AR)} (T : ClsAt X.K X.mg x A) (hC : C.mg = X.mg) (hi : PySem.W.findIn X.K (.ref A) "__init__" = some (some (.ref f))) (hf : PySem.W.isFn X.K (.ref f) = true)
    (FO : FnOk X.prog X.w X.K X.mg X.base CX0 k f fd ps (spV C cios F)) (hX : ∀ ds x os, F ds ≠ some (.exc x, os)) (hr : Room (k + 1) X.A) (hg : Gl X x) (hb : Binds X.K fd ps [])
    (ha : PA X (e :: es) (rdA C W fa)) (hdb : (x == ("__debug__" : Str)) = false := by decide) (he : starEach (e :: es) X.env = (false, eval e X.env) :: starEach es X.env := by rfl) (hpl : (backTo pos (starEach es X.env)).any (·.1) = false := by rfl) :
    PE X (.Call (.Name x p) (e :: es) [] pos) (rdE C W (eMake x F cios fa)) :=
  imE (pe_make (E := fun _ _ _ => False) ⟨T.mks, hi, hf, T.kp⟩ FO hr hg T.g hb .nil pass0 ha hdb he hpl) fun σ H Q h => by
    obtain ⟨B, G, env, hl, P, o⟩ := rd_make (by rw [hC]; exact T.g) h
    exact ⟨B, G, env, hl, P, o.mono fun as e _ q G1 H1 vs l1 P1 hs hn x dx n1 n2 n3 => spV_noX hX (q G1 H1 vs l1 P1 hs hn x dx n1 n2 n3)⟩
/-! ### fields -/
theorem zip_get {G : Hp} {f : Str} : ∀ {ns : List Str} {ds : List D} {xs : List V} {d : D}, RepFs C G ds xs → (ns.zip ds).lookup f = some d → ∃ v, (ns.zip xs).lookup f = some v ∧ RepF C G d v
  | [], ds, xs, d, _, h => by simp at h
  | n :: ns, [], xs, d, _, h => by simp at h
  | n :: ns, d0 :: ds, xs, d, r, h => by
    obtain ⟨x, r', rfl, r1, r2⟩ := r
    rw [List.zip_cons_cons, List.lookup_cons] at h
    rw [List.zip_cons_cons, List.lookup_cons]
    cases hb : f == n with
    | true => rw [hb] at h; cases h; exact ⟨x, rfl, r1⟩
    | false => rw [hb] at h; exact zip_get r2 h
def gFld (cs : List Str) (f : Str) : D → Option D
  | .ins c ns ds => if cs.contains c then (ns.zip ds).lookup f else none
  | _ => none
theorem pe_fd {o : Expr} {f : Str} {pos : Pos} {fo : M D} {cs : List Str} (hcs : ∀ c ∈ cs, ∃ A, C.mg c = some (.ref A) ∧ Cls X.K A ∧ NoAttr X.K A f) (ho : PE X o (rdE C W fo)) (hb : attributeBase o f X.env (eval o X.env) = eval o X.env := by rfl) : PE X (.Attribute o f pos) (rdE C W (e1 (gFld cs f) fo)) :=
  imE (pe_fld ho hb) fun σ H Q h => by
    refine rdE_mono (rd_e1 h) fun x H1 ⟨G, a, d, gh, ra, hg, k⟩ => ?_
    cases a with
    | ins c ns ds =>
      unfold gFld at hg
      simp only at hg
      split at hg
      · rename_i hc
        obtain ⟨a, A, dx, xs, rfl, hA, ho, hl, rs⟩ := ra
        obtain ⟨A', hA', cl, na⟩ := hcs c (by simpa using hc)
        rw [hA] at hA'
        cases hA'
        obtain ⟨v, hv, rv⟩ := zip_get rs hg
        exact ⟨a, A, dx, _, v, rfl, gh _ _ ho, cl, na, hv, k G H1 v [] (.refl gh) rv.o⟩
      · cases hg
    | _ => cases hg
end
end VL
namespace VL
open PySem PySem.Spec PyProof.Rows L2
section
variable {C : Ct} {W : WX} {X : Cx} {ios : List Nat}
/-! ### methods: the class is seen when the object is there -/
def tMethD (CX : CXT) (X : Cx) (m : Str) (ta : TE) (t : TA) : TE := fun σ H Q => ta σ H fun x H1 => ∃ (A f : Addr) (k : Nat) (fd : FuncData) (ps : List Str) (sp : Sp) (E : XK) (a dx : Addr) (fs : List (Str × V)), Cls X.K A ∧ Meth X.K A m f ∧ FnOk X.prog X.w X.K X.mg X.base CX k f fd ps sp ∧ Room k X.A ∧ Binds X.K fd ps [] ∧ Passes CX X E ∧
  x = .ref a ∧ H1 a = some (.ins A dx fs) ∧ fs.lookup m = none ∧ t σ H1 fun vs H2 => sp (x :: (vs ++ [])) H2 Q E
theorem pe_methD {CX : CXT} {o e : Expr} {es : List Expr} {m : Str} {apos pos : Pos} {ta : TE} {t : TA} {pl : Sem Bool} (he : PE X o ta) (ha : PA X (e :: es) t)
    (hst : starEach (e :: es) X.env = (false, eval e X.env) :: starEach es X.env := by rfl) (hpl : (backTo pos (starEach es X.env)).any (·.1) = false := by rfl)
    (ht : eval (.Call (.Attribute o m apos) (e :: es) [] pos) X.env = (do
      let ov ← eval o X.env
      standAt apos.atName
      let (f, first) ← holding [ov] (getMethod ov m pl)
      callWith pos f first (backTo pos (starEach (e :: es) X.env)) (backToKw pos (keywordEach [] X.env))) := by rfl) :
    PE X (.Call (.Attribute o m apos) (e :: es) [] pos) (tMethD CX X m ta t) := by
  refine ⟨fun pins s σ H Q I h => ?_⟩
  refine PySem.W.methodCall_KW (pl := pl) (thn (he.run pins s σ H _ I h) fun u s1 ⟨x, H1, I1, rx, A, f, k, fd, ps, sp, E, a, dx, fs, c, hm, F, hr, hb, hx, ex, ea, l, q⟩ => ?_) ht
  subst ex
  obtain rfl : u = Value.ref a := rx
  refine getmeth_ok I1 ea c hm l ?_
  refine PySem.W.callWith_K (first := [.ref a]) (h₀ := X.base) I.ok.mod.kin hm.kp (thn (ha.run pos pins s1 σ H1 _ I1 q) fun us s2 ⟨vs, H2, I2, r, q2⟩ => ⟨I2.kIn, ?_⟩) hst hpl
  exact run_fn (us := .ref a :: us) (vs := .ref a :: vs) F hr hb .nil hx I2 (.cons rfl r) q2
theorem pe_methD0 {CX : CXT} {o : Expr} {m : Str} {apos pos : Pos} {ta : TE} {pl : Sem Bool} (he : PE X o ta)
    (ht : eval (.Call (.Attribute o m apos) [] [] pos) X.env = (do
      let ov ← eval o X.env
      standAt apos.atName
      let (f, first) ← holding [ov] (getMethod ov m pl)
      callWith pos f first (backTo pos (starEach [] X.env)) (backToKw pos (keywordEach [] X.env))) := by rfl) :
    PE X (.Call (.Attribute o m apos) [] [] pos) (tMethD CX X m ta tNil) := by
  refine ⟨fun pins s σ H Q I h => ?_⟩
  refine PySem.W.methodCall_KW (pl := pl) (thn (he.run pins s σ H _ I h) fun u s1 ⟨x, H1, I1, rx, A, f, k, fd, ps, sp, E, a, dx, fs, c, hm, F, hr, hb, hx, ex, ea, l, q⟩ => ?_) ht
  subst ex
  obtain rfl : u = Value.ref a := rx
  refine getmeth_ok I1 ea c hm l ?_
  exact PySem.W.callWith_K0 (first := [.ref a]) I1.kIn hm.kp (run_fn (us := [.ref a]) (vs := [.ref a]) F hr hb .nil hx I1 (.cons rfl .nil) q)
/-- the end of a call: what the callee tells, its changes put back -/
def endCall (F : Fn) (ios : List Nat) (as : List AR) : M D := fun e =>
  if sPos 0 as = ios ∧ (sSl as).Nodup then match argD e as with
    | none => .no
    | some ds => match F ds with
      | none => .no
      | some (.ret d, os) => if os.length = ios.length then .ok d (putAs e as os) else .no
      | some (.exc x, os) => if os.length = ios.length then .ex x (putAs e as os) else .no
  else .no
theorem rd_endCall {F : Fn} {cios : List Nat} {B : Bs} {σ : L2.St} {as : List AR} {e : Env} {G1 H1 : Hp} {vs : List V} {Q : VK} (hx : B.xs.length = B.ts.length) (l1 : e.length = σ.length) (P1 : (B.pushs vs as).At C G1 H1 σ e)
    (hs : ∀ (j i : Nat), as[j]? = some (.s i) → ∃ v, vs[j]? = some v ∧ σ[i]? = some (some v)) (hn : vs.length = as.length)
    (q : Out C W B σ (endCall F cios as e) fun d env' => ∀ G' H' v, env'.length = σ.length → (B.push v d).At C G' H' σ env' → Q v H') : spV C cios F vs H1 Q fun cls dd H2 => W cls dd σ H2 := by
  unfold endCall at q
  split at q
  · rename_i hcond
    obtain ⟨hpos, hnd⟩ := hcond
    cases ha : argD e as with
    | none => rw [ha] at q; exact q.elim
    | some ds =>
      rw [ha] at q
      refine call_core hx l1 P1 hs hn hpos hnd ha ?_
      cases hF : F ds with
      | none => simp only [hF] at q; exact q.elim
      | some r =>
        obtain ⟨r, os⟩ := r
        cases r with
        | exc x =>
          simp only [hF] at q ⊢
          split at q
          · rename_i hos
            refine ⟨hos, fun G' H' cls dd M' m1 R X' => q G' H' cls dd (by rw [putAs_length]; exact l1) ?_ X'⟩
            have := Post.dropTail (A := σ ++ B.xs) (As := putAs e as os ++ B.ts) R (by simp [putAs_length]; omega)
            unfold Bs.At
            simpa [List.append_assoc] using this
          · exact q.elim
        | ret d =>
          simp only [hF] at q ⊢
          split at q
          · rename_i hos
            refine ⟨hos, fun G' H' v M' m1 _ R => q G' H' v (by rw [putAs_length]; exact l1) ?_⟩
            have := Post.dropMid (A := σ ++ B.xs) (As := putAs e as os ++ B.ts) R (by simp [putAs_length]; omega)
            unfold Bs.At Bs.push
            simpa [List.append_assoc] using this
          · exact q.elim
  · exact q.elim
/-- what is known of the methods of a name: for each class, its def -/
def MethTab (C : Ct) (X : Cx) (m : Str) (ios : List Nat) (tbl : List (Str × Fn)) : Prop := ∀ c F, tbl.lookup c = some F → ∃ (A f : Addr) (k : Nat) (fd : FuncData) (ps : List Str), C.mg c = some (.ref A) ∧ Cls X.K A ∧ Meth X.K A m f ∧ FnOk X.prog X.w X.K X.mg X.base CX0 k f fd ps (spV C ios F) ∧ Room k X.A ∧ Binds X.K fd ps [] ∧ ∀ ds x os, F ds ≠ some (.exc x, os)
theorem methTab_nil {m : Str} : MethTab C X m ios [] := fun c F h => by simp at h
theorem methTab_cons {m c : Str} {F : Fn} {tbl : List (Str × Fn)} {A f : Addr} {k : Nat} {fd : FuncData} {ps : List Str} (hC : C.mg = X.mg) (T : ClsAt X.K X.mg c A) (hm : Meth X.K A m f) (FO : FnOk X.prog X.w X.K X.mg X.base CX0 k f fd ps (spV C ios F)) (hr : Room k X.A) (hb : Binds X.K fd ps []) (hX : ∀ ds x os, F ds ≠ some (.exc x, os)) (h : MethTab C X m ios tbl) : MethTab C X m ios ((c, F) :: tbl) := fun c' F' e => by
  rw [List.lookup_cons] at e
  cases hb' : c' == c with
  | true =>
    rw [hb'] at e
    cases e
    have : c' = c := by simpa using hb'
    subst this
    exact ⟨A, f, k, fd, ps, by rw [hC]; exact T.g, T.cl, hm, FO, hr, hb, hX⟩
  | false => rw [hb'] at e; exact h c' F' e
/-- o.m(..), o shared -/
def eMeth (tbl : List (Str × Fn)) (m : Str) (ios : List Nat) (fo : M D) (fa : M (List AR)) : M D := fun env => (fo env).bind fun d e1 => match frz d with
  | .ins c ns ds => match tbl.lookup c with
    | some F => if ns.contains m then .no else (fa e1).bind fun as e => endCall F ios (.v (.ins c ns ds) :: as) e
    | none => .no
  | _ => .no
theorem lookup_zip_none {m : Str} : ∀ {ns : List Str} {xs : List V}, ns.contains m = false → (ns.zip xs).lookup m = none
  | [], _, _ => by simp
  | n :: ns, [], _ => by simp
  | n :: ns, x :: xs, h => by
    simp at h
    rw [List.zip_cons_cons, List.lookup_cons]
    have : (m == n) = false := by simpa using h.1
    rw [this]
    exact lookup_zip_none (by simpa using h.2)
theorem rd_meth {tbl : List (Str × Fn)} {m : Str} {cios : List Nat} {fo : M D} {fa : M (List AR)} (hC : C.mg = X.mg) (ht : MethTab C X m cios tbl) {σ : L2.St} {H : Hp} {Q : VK} (h : rdE C W (eMeth tbl m cios fo fa) σ H Q) : tMethD CX0 X m (rdE C W fo) (rdA C W fa) σ H Q := by
  obtain ⟨B, G, env, hl, P, o⟩ := h
  have hx := at_len P hl
  refine ⟨B, G, env, hl, P, o.bind.mono fun d e1 _ q G1 H1 x l1 P1 => ?_⟩
  obtain ⟨G2, s2, P2, rf⟩ := rd_frz (fe := fo) (Q := fun _ _ => True) l1 P1
  cases hd : frz d with
  | ins c ns ds =>
    rw [hd] at q rf P2
    simp only at q
    cases hF : tbl.lookup c with
    | none => rw [hF] at q; exact q.elim
    | some F =>
      rw [hF] at q
      simp only at q
      split at q
      · exact q.elim
      · rename_i hmn
        obtain ⟨A, f, k, fd, ps, hA, cl, hm, FO, hr, hb, hX⟩ := ht c F hF
        obtain ⟨a, A', dx, xs, rfl, hA', ho, hlen, rs⟩ := id rf
        rw [hA] at hA'
        cases hA'
        have gh := (show Post _ _ _ _ _ _ _ _ from P2).gh
        refine ⟨A, f, k, fd, ps, _, fun _ _ _ => False, a, dx, _, cl, hm, FO, hr, hb, pass0, rfl, gh _ _ ho, lookup_zip_none (by simpa using hmn), ?_⟩
        refine ⟨B.push (.ref a) (.ins c ns ds), G2, e1, l1, P2, (Out.under (v := .ref a) (d := some (.ins c ns ds)) hx q).bind.mono fun as e2 _ q2 G3 H3 vs l3 P3 hs hn => ?_⟩
        show spV C cios F (.ref a :: (vs ++ [])) H3 Q _
        rw [List.append_nil]
        refine spV_noX hX (rd_endCall (W := W) (G1 := G3) (as := .v (.ins c ns ds) :: as) (vs := .ref a :: vs) hx l3 ?_ (fun j i hj => ?_) (by simp [hn]) ?_)
        · unfold Bs.At Bs.pushs Bs.push at P3
          unfold Bs.At Bs.pushs
          simpa [List.append_assoc, AR.d] using P3
        · cases j with
          | zero => simp at hj
          | succ j => simpa using hs j i (by simpa using hj)
        · cases hr : endCall F cios (.v (.ins c ns ds) :: as) e2 with
          | no => rw [hr] at q2; exact q2.elim
          | ok d' e' =>
            rw [hr] at q2
            intro G' H' v l' P'
            exact q2 G' H' v l' P'
          | ex y e' => 
            rw [hr] at q2
            have : Out C W B σ (R.ex y e' : R D) fun d env' => ∀ G' H' v, env'.length = σ.length → (B.push v d).At C G' H' σ env' → Q v H' := by
              intro G' H' cls dd hl' P' X'
              unfold endCall at hr
              exfalso
              split at hr
              · cases ha : argD e2 (.v (.ins c ns ds) :: as) with
                | none => rw [ha] at hr; cases hr
                | some ds' =>
                  rw [ha] at hr
                  cases hF2 : F ds' with
                  | none => simp only [hF2] at hr; cases hr
                  | some r =>
                    obtain ⟨r, os⟩ := r
                    cases r with
                    | exc z => exact hX ds' z os hF2
                    | ret d3 =>
                      simp only [hF2] at hr
                      split at hr <;> cases hr
              · cases hr
            exact this
  | _ => rw [hd] at q; exact q.elim
theorem pe_mth {tbl : List (Str × Fn)} {o e : Expr} {es : List Expr} {m : Str} {cios : List Nat} {fo : M D} {fa : M (List AR)} {apos pos : Pos} {pl : Sem Bool} (hC : C.mg = X.mg) (ht : MethTab C X m cios tbl) (ho : PE X o (rdE C W fo)) (ha : PA X (e :: es) (rdA C W fa))
    (hst : starEach (e :: es) X.env = (false, eval e X.env) :: starEach es X.env := by rfl) (hpl : (backTo pos (starEach es X.env)).any (·.1) = false := by rfl)
    (hc : eval (.Call (.Attribute o m apos) (e :: es) [] pos) X.env = (do
      let ov ← eval o X.env
      standAt apos.atName
      let (f, first) ← holding [ov] (getMethod ov m pl)
      callWith pos f first (backTo pos (starEach (e :: es) X.env)) (backToKw pos (keywordEach [] X.env))) := by rfl) :
    PE X (.Call (.Attribute o m apos) (e :: es) [] pos) (rdE C W (eMeth tbl m cios fo fa)) := imE (pe_methD ho ha hst hpl hc) fun _ _ _ h => rd_meth hC ht h
theorem pe_mth0 {tbl : List (Str × Fn)} {o : Expr} {m : Str} {cios : List Nat} {fo : M D} {apos pos : Pos} {pl : Sem Bool} (hC : C.mg = X.mg) (ht : MethTab C X m cios tbl) (ho : PE X o (rdE C W fo))
    (hc : eval (.Call (.Attribute o m apos) [] [] pos) X.env = (do
      let ov ← eval o X.env
      standAt apos.atName
      let (f, first) ← holding [ov] (getMethod ov m pl)
      callWith pos f first (backTo pos (starEach [] X.env)) (backToKw pos (keywordEach [] X.env))) := by rfl) :
    PE X (.Call (.Attribute o m apos) [] [] pos) (rdE C W (eMeth tbl m cios fo aNil)) := imE (pe_methD0 ho hc) fun σ H Q h => by
  have q := rd_meth hC ht h
  refine rdE_mono q fun x H1 ⟨A, f, k, fd, ps, sp, E, a, dx, fs, c, hm, F, hr, hb, hx, ex, ea, l, q⟩ => ⟨A, f, k, fd, ps, sp, E, a, dx, fs, c, hm, F, hr, hb, hx, ex, ea, l, ?_⟩
  exact rdA_nil q
end
end VL
namespace VL
open PySem PySem.Spec PyProof.Rows L2
section
variable {C : Ct} {W : WX} {X : Cx} {ios : List Nat}
/-! ### o.f = e, at an object of one's own -/
def putN (f : Str) : List Str → List Str
  | [] => [f]
  | g :: r => if g = f then g :: r else g :: putN f r
def putV {α : Type} (f : Str) (y : α) : List Str → List α → List α
  | [], _ => [y]
  | _ :: _, [] => []
  | g :: r, x :: xs => if g = f then y :: xs else x :: putV f y r xs
theorem put_zip {f : Str} {v : V} : ∀ {ns : List Str} {xs : List V}, xs.length = ns.length → putF f v (ns.zip xs) = (putN f ns).zip (putV f v ns xs)
  | [], [], _ => rfl
  | [], x :: xs, h => by simp at h
  | n :: ns, [], h => by simp at h
  | n :: ns, x :: xs, h => by
    rw [List.zip_cons_cons, putF, putN, putV]
    split
    · rw [List.zip_cons_cons]
    · rw [List.zip_cons_cons, put_zip (by simpa using h)]
theorem putV_length {α : Type} {f : Str} {y : α} : ∀ {ns : List Str} {xs : List α}, xs.length = ns.length → (putV f y ns xs).length = (putN f ns).length
  | [], [], _ => rfl
  | [], x :: xs, h => by simp at h
  | n :: ns, [], h => by simp at h
  | n :: ns, x :: xs, h => by
    rw [putN, putV]
    split
    · simpa using h
    · simp [putV_length (f := f) (y := y) (show xs.length = ns.length by simpa using h)]
theorem putN_length {f : Str} : ∀ {ns : List Str}, (putN f ns).length ≤ ns.length + 1
  | [] => by simp [putN]
  | n :: ns => by
    rw [putN]
    split
    · simp
    · simp; exact putN_length
theorem RepOs.put {G H : Hp} {f : Str} {d : D} {v : V} {fp : List Addr} (r : RepO C G H d v fp) (hp : fp.Nodup) : ∀ {ns : List Str} {ds : List D} {xs : List V} {fs : List Addr}, RepOs C G H ds xs fs → ds.length = ns.length → fs.Nodup → (∀ p, p ∈ fs → p ∉ fp) →
    ∃ fs', RepOs C G H (putV f d ns ds) (putV f v ns xs) fs' ∧ fs'.Nodup ∧ ∀ p, p ∈ fs' → p ∈ fs ∨ p ∈ fp
  | [], [], xs, fs, h, _, _, _ => by
    obtain ⟨rfl, rfl⟩ := h
    exact ⟨fp, ⟨v, [], fp, [], rfl, by simp, r, rfl, rfl⟩, hp, fun p q => .inr q⟩
  | [], _ :: _, _, _, _, h, _, _ => by simp at h
  | n :: ns, [], _, _, _, h, _, _ => by simp at h
  | n :: ns, d0 :: ds, xs, fs, h, hl, nd, dj => by
    obtain ⟨x, r', f1, f2, rfl, rfl, h1, h2⟩ := h
    rw [putV, putV]
    obtain ⟨n1, n2, n3⟩ := List.nodup_append.mp nd
    split
    · refine ⟨fp ++ f2, ⟨v, r', fp, f2, rfl, rfl, r, h2⟩, List.nodup_append.mpr ⟨hp, n2, fun a ha b hb e => ?_⟩, fun p q => ?_⟩
      · subst e; exact dj a (List.mem_append_right _ hb) ha
      · rcases List.mem_append.mp q with q | q
        · exact .inr q
        · exact .inl (List.mem_append_right _ q)
    · obtain ⟨fs', k1, k2, k3⟩ := RepOs.put r hp (f := f) (ns := ns) h2 (by simpa using hl) n2 fun p q => dj p (List.mem_append_right _ q)
      refine ⟨f1 ++ fs', ⟨x, _, f1, fs', rfl, rfl, h1, k1⟩, List.nodup_append.mpr ⟨n1, k2, fun a ha b hb e => ?_⟩, fun p q => ?_⟩
      · subst e
        rcases k3 a hb with z | z
        · exact n3 a ha a z rfl
        · exact dj a (List.mem_append_left _ ha) z
      · rcases List.mem_append.mp q with q | q
        · exact .inl (List.mem_append_left _ q)
        · exact (k3 p q).imp (List.mem_append_right _) id
theorem Post.setFld {G0 H0 G H : Hp} {io : List Addr} {σ : List (Option V)} {ds : List (Option D)} {i : Nat} {c : Str} {ns : List Str} {es : List D} {v : V} {d : D} (f : Str) (P : Post C G0 H0 io G H (σ ++ [some v]) (ds ++ [some d])) (hi : ds[i]? = some (some (.oins c ns es))) :
    ∃ a A dx xs, σ[i]? = some (some (.ref a)) ∧ C.mg c = some (.ref A) ∧ H a = some (.ins A dx (ns.zip xs)) ∧ xs.length = ns.length ∧ (es.length = ns.length → Post C G0 H0 io G (upd H a (.ins A dx (putF f v (ns.zip xs)))) σ (ds.set i (some (.oins c (putN f ns) (putV f d ns es))))) := by
  obtain ⟨fpf, O, hin⟩ := id P.own
  have hL := O.len
  simp at hL
  have hlt : i < ds.length := (List.getElem?_eq_some_iff.mp hi).1
  obtain ⟨w, hw, a, A, dx, xs, fs, rfl, hA, ha, hd, hl, rs, ef⟩ := O.rep i _ (by rw [List.getElem?_append_left hlt]; exact hi)
  rw [List.getElem?_append_left (by omega)] at hw
  obtain ⟨v', hv', rv⟩ := O.rep ds.length d (by rw [List.getElem?_append_right (Nat.le_refl _)]; simp)
  rw [List.getElem?_append_right (by omega), show ds.length - σ.length = 0 by omega] at hv'
  simp at hv'
  subst hv'
  refine ⟨a, A, dx, xs, hw, hA, ha, hl, fun hes => ?_⟩
  have ndi := O.nd i
  rw [ef] at ndi
  obtain ⟨na, ndi2⟩ := List.nodup_cons.mp ndi
  obtain ⟨nx, ndf⟩ := List.nodup_cons.mp ndi2
  have djv : ∀ p, p ∈ fpf i → p ∉ fpf ds.length := fun p h1 h2 => by
    have := O.dj i ds.length p h1 h2
    omega
  have aif : a ∈ fpf i := by rw [ef]; simp
  have dif : dx ∈ fpf i := by rw [ef]; simp
  have fif : ∀ p, p ∈ fs → p ∈ fpf i := fun p h => by rw [ef]; simp [h]
  obtain ⟨fs', k1, k2, k3⟩ := RepOs.put (f := f) rv (O.nd _) rs hes ndf (fun p q => djv p (fif p q))
  have inn : ∀ p, p ∈ a :: dx :: fs' → p ∈ fpf i ∨ p ∈ fpf ds.length := fun p h => by
    simp only [List.mem_cons] at h
    rcases h with rfl | rfl | h
    · exact .inl aif
    · exact .inl dif
    · exact (k3 p h).imp (fif p) id
  have a' : a ∉ fs' := fun h => by
    rcases k3 a h with q | q
    · simp at na; exact na.2 q
    · exact djv a aif q
  have d' : dx ∉ fs' := fun h => by
    rcases k3 dx h with q | q
    · exact nx q
    · exact djv dx dif q
  have ax : a ≠ dx := by simp at na; exact na.1
  refine P.re (fpf := fpf) (fpf' := fun j => if j = i then a :: dx :: fs' else if j < ds.length then fpf j else []) hin (Same.refl _) ?_ (fun b o hb k => ?_) (fun b hb => ne_upd hb) (fun b hb k hg => hg) ⟨by simp; omega, fun j e hj => ?_, fun j => ?_, fun j j' p h1 h2 => ?_, fun j p h1 => ?_, fun j p h1 => ?_⟩ fun j p h1 => ?_
  · intro b o hb
    have : b ≠ a := fun z => by
      rw [z, O.gn i a aif] at hb
      cases hb
    rw [upd_ne this]; exact P.gh b o hb
  · rw [upd_ne fun z => k i (by rw [z]; exact aif)]; exact hb
  · by_cases e0 : j = i
    · subst e0
      rw [List.getElem?_set_self hlt] at hj
      cases hj
      refine ⟨.ref a, hw, ?_⟩
      simp only [if_true]
      refine ⟨a, A, dx, putV f v ns xs, fs', rfl, hA, by rw [upd_same, put_zip hl], by rw [upd_ne ax.symm]; exact hd, putV_length hl, ?_, rfl⟩
      exact RepOs.mono (Same.refl _) _ _ _ (fun p hp => upd_ne fun z => a' (z ▸ hp)) k1
    · rw [List.getElem?_set_ne (Ne.symm e0)] at hj
      have hjl := (List.getElem?_eq_some_iff.mp hj).1
      obtain ⟨v', q1, q2⟩ := O.rep j e (by rw [List.getElem?_append_left hjl]; exact hj)
      rw [List.getElem?_append_left (by omega)] at q1
      refine ⟨v', q1, ?_⟩
      simp only [e0, if_false, hjl, if_true]
      refine RepO.mono (Same.refl _) _ _ _ (fun b hb => upd_ne fun z => ?_) q2
      exact e0 (O.dj j i a (z ▸ hb) aif)
  · (try dsimp only)
    split
    · exact List.nodup_cons.mpr ⟨by simp [ax, a'], List.nodup_cons.mpr ⟨d', k2⟩⟩
    · split
      · exact O.nd j
      · exact .nil
  · (try dsimp only at h1 h2)
    by_cases e1 : j = i
    · rw [if_pos e1] at h1
      by_cases e2 : j' = i
      · omega
      · rw [if_neg e2] at h2
        split at h2
        · rcases inn p h1 with q | q
          · have := O.dj _ _ p q h2; omega
          · have := O.dj _ _ p q h2; omega
        · cases h2
    · rw [if_neg e1] at h1
      split at h1
      · by_cases e2 : j' = i
        · rw [if_pos e2] at h2
          rcases inn p h2 with q | q
          · have := O.dj _ _ p q h1; omega
          · have := O.dj _ _ p q h1; omega
        · rw [if_neg e2] at h2
          split at h2
          · exact O.dj j j' p h1 h2
          · cases h2
      · cases h1
  · (try dsimp only at h1)
    split at h1
    · rcases inn p h1 with q | q
      · exact O.gn _ p q
      · exact O.gn _ p q
    · split at h1
      · exact O.gn _ p h1
      · cases h1
  · (try dsimp only at h1)
    refine ne_upd ?_
    split at h1
    · rcases inn p h1 with q | q
      · exact O.hp _ p q
      · exact O.hp _ p q
    · split at h1
      · exact O.hp _ p h1
      · cases h1
  · (try dsimp only at h1)
    split at h1
    · rcases inn p h1 with q | q
      · exact .inl ⟨_, q⟩
      · exact .inl ⟨_, q⟩
    · split at h1
      · exact .inl ⟨_, h1⟩
      · cases h1
/-- x.f = e, x the name at i, an object of a class of cs -/
def sFd (cs : List Str) (i : Nat) (f : Str) (fe : M D) : M Fl := fun env => (fe env).bind fun d e => match e[i]? with
  | some (some (.oins c ns es)) => if cs.contains c ∧ ns.length < 100 ∧ es.length = ns.length then .ok .nx (e.set i (some (.oins c (putN f ns) (putV f d ns es)))) else .no
  | _ => .no
theorem s_fld {x f : Str} {pos pos' tpos : Pos} {e : Expr} {fe : M D} {cs : List Str} (i : Nat) (hcs : ∀ c ∈ cs, ∃ A, C.mg c = some (.ref A) ∧ Cls X.K A ∧ NoAttr X.K A f) (ho : PE X (.Name x tpos) (tVar i)) (he : PE X e (rdE C W fe)) (hs : swapsWith e (some (.Attribute (.Name x tpos) f pos')) pos.line X.env = pure false := by rfl) :
    PS X (.Assign [.Attribute (.Name x tpos) f pos'] e pos) (rdS C W ios (sFd cs i f fe)) :=
  imS (ps_fld ho he hs) fun D' σ H ⟨B, G, env, hl, P, o⟩ => by
    have hx := at_len P hl
    refine ⟨B, G, env, hl, P, o.of.mono fun d e1 _ q G1 H1 v l1 P1 => ?_⟩
    split at q
    · rename_i c ns es hi
      split at q
      · rename_i hc
        have hi1 := (List.getElem?_eq_some_iff.mp hi).1
        have P1' : Post C B.G0 B.H0 B.io G1 H1 ((σ ++ B.xs) ++ [some v]) ((e1 ++ B.ts) ++ [some d]) := by
          unfold Bs.At Bs.push at P1
          simpa [List.append_assoc] using P1
        obtain ⟨a, A, dx, xs, h1, h2, h3, h4, h5⟩ := P1'.setFld (i := i) f (by rw [List.getElem?_append_left hi1]; exact hi)
        rw [List.getElem?_append_left (by omega)] at h1
        obtain ⟨A', hA', cl, na⟩ := hcs c (by simpa using hc.1)
        rw [h2] at hA'
        cases hA'
        refine ⟨.ref a, h1, a, A, dx, _, rfl, h3, cl, na, by simp; omega, q G1 _ σ rfl (by simpa using l1) (fun _ _ => rfl) ?_⟩
        have := h5 hc.2.2
        rw [List.set_append_left _ _ hi1] at this
        exact this
      · exact q.elim
    · exact q.elim
/-! ### isinstance of an own class -/
def gIsC (tbl : List (Str × Bool)) : D → Option D
  | .ins c _ _ => (tbl.lookup c).map .bl
  | _ => none
theorem pe_isc {a : Expr} {c : Str} {A : Addr} {p p2 pos : Pos} {fa : M D} {tbl : List (Str × Bool)} (hK : X.K = C.K) (hC : C.mg = X.mg) (T : ClsAt X.K X.mg c A) (htb : ∀ c' b, tbl.lookup c' = some b → ∃ A', ClsAt X.K X.mg c' A' ∧ PySem.W.kitOne X.K (.ref A') (.ref A) = some b)
    (hg : Gl X "isinstance") (hm : X.mg "isinstance" = none) (hv : bootBuiltins "isinstance" = some (.builtin "isinstance")) (hg2 : Gl X c) (ha : PE X a (rdE C W fa)) (hdb2 : (c == ("__debug__" : Str)) = false := by decide)
    (he : starEach [a, .Name c p2] X.env = (false, eval a X.env) :: starEach [.Name c p2] X.env := by rfl) (hpl : (backTo pos (starEach [.Name c p2] X.env)).any (·.1) = false := by rfl) (hs2 : starEach [.Name c p2] X.env = (false, eval (.Name c p2) X.env) :: starEach [] X.env := by rfl) :
    PE X (.Call (.Name "isinstance" p) [a, .Name c p2] [] pos) (rdE C W (e1 (gIsC tbl) fa)) :=
  imE (pe_callB call_isi hg hm hv (pa_cons ha (pa_cons (pe_glob hg2 T.g relRef hdb2) pa_nil hs2) he) (by decide) (by decide) he hpl) fun σ H Q h => by
    refine rdE_mono (rd_e1 h) fun x H1 ⟨G, d, r, gh, rd, hg, k⟩ => ?_
    cases d with
    | ins c' ns ds =>
      unfold gIsC at hg
      simp only at hg
      cases hb : tbl.lookup c' with
      | none => rw [hb] at hg; cases hg
      | some b =>
        rw [hb] at hg
        cases hg
        obtain ⟨a, A', dx, xs, rfl, hA', ho, hl, rs⟩ := id rd
        obtain ⟨A2, T2, hk⟩ := htb c' b hb
        have := T2.g
        rw [← hC, hA'] at this
        cases this
        exact ⟨.ref a, .ref A, .ref A', .ref A, b, rfl, .own A, .base (T2.ty _ _ _ _ (gh _ _ ho)), hk, k G H1 (.bl b) [] (.refl gh) ⟨rfl, rfl⟩⟩
    | _ => cases hg
theorem isTab_nil {K : PySem.W.Frag} {mg : Str → Option Value} {A : Addr} : ∀ c' b, List.lookup c' ([] : List (Str × Bool)) = some b → ∃ A', ClsAt K mg c' A' ∧ PySem.W.kitOne K (.ref A') (.ref A) = some b := fun c b h => by simp at h
theorem isTab_cons {K : PySem.W.Frag} {mg : Str → Option Value} {A A' : Addr} {c : Str} {v : Bool} {tbl : List (Str × Bool)} (T : ClsAt K mg c A') (e : PySem.W.kitOne K (.ref A') (.ref A) = some v) (h : ∀ c' b, tbl.lookup c' = some b → ∃ A', ClsAt K mg c' A' ∧ PySem.W.kitOne K (.ref A') (.ref A) = some b) :
    ∀ c' b, List.lookup c' ((c, v) :: tbl) = some b → ∃ A', ClsAt K mg c' A' ∧ PySem.W.kitOne K (.ref A') (.ref A) = some b := fun c' b q => by
  rw [List.lookup_cons] at q
  cases hb' : c' == c with
  | true =>
    rw [hb'] at q
    cases q
    have : c' = c := by simpa using hb'
    subst this
    exact ⟨A', T, e⟩
  | false => rw [hb'] at q; exact h c' b q
theorem fdTab_nil {K : PySem.W.Frag} {mg : Str → Option Value} {f : Str} : ∀ c ∈ ([] : List Str), ∃ A, mg c = some (.ref A) ∧ Cls K A ∧ NoAttr K A f := fun _ h => (nomatch h)
theorem fdTab_cons {K : PySem.W.Frag} {mg : Str → Option Value} {f c : Str} {A : Addr} {cs : List Str} (T : ClsAt K mg c A) (n : NoAttr K A f) (h : ∀ c ∈ cs, ∃ A, mg c = some (.ref A) ∧ Cls K A ∧ NoAttr K A f) : ∀ c' ∈ c :: cs, ∃ A, mg c' = some (.ref A) ∧ Cls K A ∧ NoAttr K A f := fun c' hc => by
  rcases List.mem_cons.mp hc with rfl | hc
  · exact ⟨A, T.g, T.cl, n⟩
  · exact h c' hc
theorem kit_sub {K : PySem.W.Frag} {A' A : Addr} {b : Bool} (h1 : PySem.W.isClsIn K A = true) (h2 : PySem.W.typeIn K (.ref A) = some (.type "type")) (h3 : PySem.W.subIn K (.ref A') (.ref A) = some b) (h4 : PySem.W.subIn K (.ref A) (.ref A) = some true) : PySem.W.kitOne K (.ref A') (.ref A) = some b := by
  unfold PySem.W.kitOne
  by_cases e : A' = A
  · subst e
    rw [h3] at h4
    rw [if_pos (beq_self_eq_true _), ← h4]
  · have : (Value.ref A' == Value.ref A) = false := by simpa using e
    rw [this, if_neg (by simp)]
    unfold PySem.W.kitCls
    simp only
    rw [if_pos, h3]
    rw [Bool.and_eq_true]
    exact ⟨h1, by rw [h2]; rfl⟩
end
end VL
namespace VL
open PySem PySem.Spec PyProof.Rows L2
section
variable {C : Ct} {W : WX} {X : Cx} {ios : List Nat}
/-! ### list(range(..)) -/
def rgL (lo hi : Int) : Option D := if in62 lo && in62 hi && decide ((hi - lo).toNat ≤ 100000) then some (.olst (rangeD lo hi)) else none
def gLR1 : D → Option D
  | .int n => rgL 0 n
  | _ => none
def gLR2 : D → D → Option D
  | .int a, .int b => rgL a b
  | _, _ => none
theorem rep_rg {G : Hp} (lo : Int) : ∀ l : List Nat, RepFs C G (l.map fun (k : Nat) => .int (lo + k)) (l.map fun (k : Nat) => V.int (lo + k))
  | [] => rfl
  | k :: r => ⟨_, _, rfl, rfl, rep_rg lo r⟩
theorem rgL_ok {G H : Hp} {lo hi : Int} {d : D} {Q : VK} (gh : Same G H) (h : rgL lo hi = some d) (k : ∀ G' H' v fp, Grow G H G' H' fp → RepO C G' H' d v fp → Q v H') : RgOk lo hi ∧ ∀ q, H q = none → Q (.ref q) (upd H q (.lst (rgV lo hi))) := by
  unfold rgL at h
  split at h
  · rename_i hc
    simp only [Bool.and_eq_true, decide_eq_true_eq] at hc
    obtain ⟨⟨h1, h2⟩, h3⟩ := hc
    have a1 := in62_of h1
    have a2 := in62_of h2
    cases h
    refine ⟨⟨a1.1, a1.2, a2.1, a2.2, by omega⟩, fun q nq => k G _ (.ref q) [q] (Grow.own1 gh nq) ⟨q, rgV lo hi, [], rfl, upd_same, RepFs.o (rep_rg lo _), rfl⟩⟩
  · cases h
theorem pe_lr1 {a : Expr} {p p2 pos pos2 : Pos} {fa : M D} (hc : X.calm = true) (hg : Gl X "list") (hm : X.mg "list" = none) (hg2 : Gl X "range") (hm2 : X.mg "range" = none) (ha : PE X a (rdE C W fa)) (na : starEach [a] X.env = (false, eval a X.env) :: starEach [] X.env := by rfl)
    (nb : starEach [.Call (.Name "range" p2) [a] [] pos2] X.env = (false, eval (.Call (.Name "range" p2) [a] [] pos2) X.env) :: starEach [] X.env := by rfl) :
    PE X (.Call (.Name "list" p) [.Call (.Name "range" p2) [a] [] pos2] [] pos) (rdE C W (e1 gLR1 fa)) :=
  imE (pe_listRg hc hg hm (prg_1 hg2 hm2 ha na) nb) fun σ H Q h => by
    refine rdE_mono (rd_e1 h) fun x H1 ⟨G, a, d, gh, ra, hg, k⟩ => ?_
    cases a with
    | int n => exact ⟨n, ra, rgL_ok gh hg k⟩
    | _ => cases hg
/-! ### enumerate of a list -/
def enumD : Nat → List D → List D
  | _, [] => []
  | i, d :: r => .tup [.int (i : Nat), d] :: enumD (i + 1) r
theorem enumD_length : ∀ (ds : List D) (n : Nat), (enumD n ds).length = ds.length
  | [], n => rfl
  | d :: r, n => by rw [enumD, List.length_cons, enumD_length r, List.length_cons]
theorem enumD_get : ∀ (ds : List D) (n i : Nat), (enumD n ds)[i]? = (ds[i]?).map fun d => .tup [.int ((n + i : Nat) : Int), d]
  | [], n, i => by simp [enumD]
  | d :: r, n, 0 => by simp [enumD]
  | d :: r, n, i + 1 => by
    rw [enumD, List.getElem?_cons_succ, List.getElem?_cons_succ, enumD_get r (n + 1) i, show n + 1 + i = n + (i + 1) by omega]
def lstD : D → Option (List D)
  | .lst ds => some ds
  | _ => none
def iEn (fe : M D) : M (List D) := fun env => (fe env).bind fun d e => ofO ((lstD (frz d)).map (enumD 0)) e
theorem it_enum {a : Addr} {ds : List D} : ItOk C (Ite C.K a) (.lst ds) (.ref a) (enumD 0 ds) := fun G H r gh i => by
  obtain ⟨a', xs, e, ha, rs⟩ := r
  cases e
  have hs : SqL C.K H a xs := .inl (.of (gh _ _ ha))
  refine ⟨fun d hd => ?_, fun hi => ?_⟩
  · rw [enumD_get] at hd
    cases hn : ds[i]? with
    | none => rw [hn] at hd; cases hd
    | some x =>
      rw [hn] at hd
      cases hd
      obtain ⟨v, hv, rv⟩ := RepFs.get rs hn
      refine ⟨⟨_, _, hs, hv⟩, fun y H' hy => ?_⟩
      obtain ⟨T, w, rfl, nT, rfl, fv⟩ := hy
      have ev : w = v := Option.some.inj ((fv _ hs).symm.trans hv)
      subst ev
      refine ⟨upd G T (.tup [.int (i : Nat), w]), Grow.shared gh nT, ⟨T, _, rfl, .inl (.of upd_same), ?_⟩⟩
      refine ⟨_, _, rfl, ?_, _, _, rfl, RepF.mono (Same.new (same_none gh nT)) _ _ rv, rfl⟩
      show V.int _ = V.int _
      rw [Nat.zero_add]
  · rw [enumD_length] at hi
    exact ⟨_, hs, by rw [rs.length]; exact hi⟩
theorem pi_en {e : Expr} {p pos tpos : Pos} {elts : List Expr} {kk : Nat} {fe : M D} (hK : X.K = C.K) (hg : Gl X "enumerate") (hm : X.mg "enumerate" = none) (ha : PE X e (rdE C W fe)) (hs : starEach [e] X.env = [(false, eval e X.env)] := by rfl) (hs2 : starEach [e] X.env = (false, eval e X.env) :: starEach [] X.env := by rfl) :
    PI X (.Tuple elts kk tpos) (.Call (.Name "enumerate" p) [e] [] pos) (rdI C W (iEn fe)) :=
  imI (pi_enum hg hm (pa_cons ha pa_nil hs2) hs) fun σ H R ⟨B, G, env, hl, P, o⟩ => ⟨B, G, env, hl, P, o.bind.mono fun d e1 _ q G' H' v l P' => by
    obtain ⟨G2, s2, P2, rf⟩ := rd_frz (fe := fe) (Q := fun _ _ => True) l P'
    cases hd : frz d with
    | lst es =>
      rw [hd] at q rf P2
      obtain ⟨a, xs, rfl, hh, rs⟩ := id rf
      have gh := (show Post _ _ _ _ _ _ _ _ from P2).gh
      exact ⟨a, xs, rfl, .inl (.of (gh _ _ hh)), q G2 H' _ _ _ l P2 rfl (hK ▸ it_enum)⟩
    | _ => rw [hd] at q; exact q.elim⟩
end
@[simp] theorem gLR1_int {n : Int} (h1 : -(2 ^ 62) ≤ n) (h2 : n ≤ 100000) : gLR1 (.int n) = some (.olst (rangeD 0 n)) := by
  unfold gLR1 rgL
  have : in62 0 = true := by decide
  simp [this, in62_ok h1 (by omega), h2]
end VL
namespace VL
open PySem PySem.Spec PyProof.Rows L2
/-! ### more of the mirrors' equations -/
section
variable {env e : Env} {i : Nat} {fa fb fo fe : M D}
@[simp] theorem eMeth_ap {tbl : List (Str × Fn)} {m : Str} {ios : List Nat} {fa : M (List AR)} : eMeth tbl m ios fo fa env = (fo env).bind fun d e1 => match frz d with
  | .ins c ns ds => match tbl.lookup c with
    | some F => if ns.contains m then .no else (fa e1).bind fun as e => endCall F ios (.v (.ins c ns ds) :: as) e
    | none => .no
  | _ => .no := (rfl)
@[simp] theorem endCall_ap {F : Fn} {ios : List Nat} {as : List AR} : endCall F ios as e = if sPos 0 as = ios ∧ (sSl as).Nodup then match argD e as with
    | none => .no
    | some ds => match F ds with
      | none => .no
      | some (.ret d, os) => if os.length = ios.length then .ok d (putAs e as os) else .no
      | some (.exc x, os) => if os.length = ios.length then .ex x (putAs e as os) else .no
  else .no := (rfl)
@[simp] theorem eMake_ap {c : Str} {F : Fn} {ios : List Nat} {fa : M (List AR)} : eMake c F ios fa env = (fa env).bind fun as e =>
  if sPos 0 (.o (.oins c [] []) :: as) = ios ∧ (sSl as).Nodup then match argD e (.o (.oins c [] []) :: as) with
    | none => .no
    | some ds => match F ds with
      | some (.ret .non, o :: os) => if os.length + 1 = ios.length then .ok o (putAs e as os) else .no
      | some (.exc x, _ :: os) => if os.length + 1 = ios.length then .ex x (putAs e as os) else .no
      | _ => .no
  else .no := (rfl)
@[simp] theorem sFd_ap {cs : List Str} {f : Str} : sFd cs i f fe env = (fe env).bind fun d e => match e[i]? with
  | some (some (.oins c ns es)) => if cs.contains c ∧ ns.length < 100 ∧ es.length = ns.length then .ok .nx (e.set i (some (.oins c (putN f ns) (putV f d ns es)))) else .no
  | _ => .no := (rfl)
end
@[simp] theorem gFld_ins {cs : List Str} {f c : Str} {ns : List Str} {ds : List D} : gFld cs f (.ins c ns ds) = if cs.contains c then (ns.zip ds).lookup f else none := (rfl)
@[simp] theorem gIsC_ins {tbl : List (Str × Bool)} {c : Str} {ns : List Str} {ds : List D} : gIsC tbl (.ins c ns ds) = (tbl.lookup c).map .bl := (rfl)
@[simp] theorem mClear_nil {es : List D} : mClear es [] = some (.non, []) := (rfl)
@[simp] theorem iEn_ap {fe : M D} {env : Env} : iEn fe env = (fe env).bind fun d e => ofO ((lstD (frz d)).map (enumD 0)) e := (rfl)
@[simp] theorem lstD_lst {ds : List D} : lstD (.lst ds) = some ds := (rfl)
theorem toNat_inj : ∀ {a b : List Char}, a.map Char.toNat = b.map Char.toNat → a = b
  | [], [], _ => rfl
  | [], _ :: _, h => by simp at h
  | _ :: _, [], h => by simp at h
  | x :: a, y :: b, h => by
    simp only [List.map_cons, List.cons.injEq] at h
    rw [toNat_inj h.2, show x = y from Char.ext (UInt32.toNat_inj.mp h.1)]
@[simp] theorem ofString_eq {a b : String} : (Str.ofString a = Str.ofString b) = (a = b) := by
  refine propext ⟨fun h => ?_, fun h => by rw [h]⟩
  rw [Str.ofString_eq_toList, Str.ofString_eq_toList] at h
  have h2 : (a.toList.map Char.toNat) = (b.toList.map Char.toNat) := by
    have := congrArg (fun s : Str => s.cps.toList) h
    simpa using this
  exact String.toList_inj.mp (toNat_inj h2)
@[simp] theorem look_cons {β : Type} {a k : Str} {b : β} {es : List (Str × β)} : List.lookup a ((k, b) :: es) = if a = k then some b else List.lookup a es := by
  rw [List.lookup_cons]
  by_cases h : a = k
  · subst h; simp
  · have : (a == k) = false := by simpa using h
    rw [this, if_neg h]
/-! ### plain data -/
@[simp] theorem okDs_nil {n : Nat} : okDs [] n = true := by unfold okDs; rfl
@[simp] theorem okDs_cons {n : Nat} {d : D} {r : List D} : okDs (d :: r) n = (okD d n && okDs r n) := by rw [okDs]
theorem okD_tup {n : Nat} {ds : List D} : okD (.tup ds) (n + 1) = okDs ds n := by rw [okD]
theorem okD_lst {n : Nat} {ds : List D} : okD (.lst ds) (n + 1) = okDs ds n := by rw [okD]
theorem okDs_ints : ∀ (fs : List Int) (n : Nat), okDs (fs.map .int) n = true
  | [], n => by simp
  | f :: r, n => by rw [List.map_cons, okDs_cons, okD_int, okDs_ints r n]; rfl
theorem okDs_bls : ∀ (fs : List Bool) (n : Nat), okDs (fs.map .bl) n = true
  | [], n => by simp
  | f :: r, n => by rw [List.map_cons, okDs_cons, okD_bl, okDs_bls r n]; rfl
theorem okDs_of {ds : List D} {n : Nat} (h : ∀ d ∈ ds, okD d n = true) : okDs ds n = true := by
  rw [okDs_all]; exact List.all_eq_true.mpr h
mutual
theorem eqD_refl : ∀ (d : D) (n : Nat), okD d n = true → eqD d d = true
  | .non, n, h => by unfold eqD; rfl
  | .bl a, n, h => by simp
  | .int a, n, h => by simp
  | .str a, n, h => by simp
  | .lst a, 0, h => by cases h
  | .lst a, n + 1, h => by rw [okD_lst] at h; rw [eqD_lst]; exact eqDs_refl a n h
  | .tup a, 0, h => by cases h
  | .tup a, n + 1, h => by rw [okD_tup] at h; rw [eqD_tup]; exact eqDs_refl a n h
  | .dic _ _, n, h => by cases n <;> cases h
  | .ins _ _ _, n, h => by cases n <;> cases h
  | .scr _, n, h => by cases n <;> cases h
  | .olst _, n, h => by cases n <;> cases h
  | .odic _ _, n, h => by cases n <;> cases h
  | .oins _ _ _, n, h => by cases n <;> cases h
theorem eqDs_refl : ∀ (ds : List D) (n : Nat), okDs ds n = true → eqDs ds ds = true
  | [], n, h => by simp
  | d :: r, n, h => by
    rw [okDs_cons, Bool.and_eq_true] at h
    rw [eqDs_cons, eqD_refl d n h.1, eqDs_refl r n h.2]; rfl
end
theorem gEq_self {d : D} (h : okD d 20 = true) : gEq d d = some (.bl true) := by rw [gEq_ok h h, eqD_refl d 20 h]
theorem gNe_self {d : D} (h : okD d 20 = true) : gNe d d = some (.bl false) := by rw [gNe_ok h h, eqD_refl d 20 h]; rfl
theorem gEq_str {x y : Str} (h1 : PyData.strOk x = true) (h2 : PyData.strOk y = true) : gEq (.str x) (.str y) = some (.bl (x == y)) := by rw [gEq_ok (by rw [okD_str]; exact h1) (by rw [okD_str]; exact h2), eqD_str]
theorem eqDs_ints : ∀ (a b : List Int), eqDs (a.map .int) (b.map .int) = decide (a = b)
  | [], [] => by simp
  | [], b :: bs => by simp [eqDs]
  | a :: as, [] => by simp [eqDs]
  | a :: as, b :: bs => by
    rw [List.map_cons, List.map_cons, eqDs_cons, eqD_int, eqDs_ints as bs]
    by_cases h1 : a = b <;> by_cases h2 : as = bs <;> simp [h1, h2]
theorem gEq_ints {a b : List Int} : gEq (.lst (a.map .int)) (.lst (b.map .int)) = some (.bl (decide (a = b))) := by
  rw [gEq_ok (by rw [okD_lst]; exact okDs_ints _ _) (by rw [okD_lst]; exact okDs_ints _ _), eqD_lst, eqDs_ints]
theorem gNe_ints {a b : List Int} : gNe (.lst (a.map .int)) (.lst (b.map .int)) = some (.bl (!decide (a = b))) := by
  rw [gNe_ok (by rw [okD_lst]; exact okDs_ints _ _) (by rw [okD_lst]; exact okDs_ints _ _), eqD_lst, eqDs_ints]
theorem anyEq_int {a : Int} : ∀ (b : List Int), anyEq (.int a) (b.map .int) = decide (a ∈ b)
  | [] => by simp [anyEq]
  | b :: bs => by
    have ih := anyEq_int (a := a) bs
    unfold anyEq at ih ⊢
    rw [List.map_cons, List.any_cons, ih, eqD_int]
    by_cases h1 : a = b
    · subst h1; simp
    · have h1' : (b == a) = false := by simpa using fun z : b = a => h1 z.symm
      simp [h1, h1']
theorem gIn_ints {a : Int} {b : List Int} : gIn (.int a) (.lst (b.map .int)) = some (.bl (decide (a ∈ b))) := by rw [gIn_lst okD_int (okDs_ints _ _), anyEq_int]
theorem gNotIn_ints {a : Int} {b : List Int} : gNotIn (.int a) (.lst (b.map .int)) = some (.bl (!decide (a ∈ b))) := by rw [gNotIn_lst okD_int (okDs_ints _ _), anyEq_int]
theorem bSum_ints {a : List Int} : bSum [.lst (a.map .int)] = some (.int a.sum) := by
  show (intsD (a.map .int)).map _ = _
  rw [intsD_map]; rfl
theorem set_same {α : Type} {l : List α} {i : Nat} {x : α} (h : l[i]? = some x) : l.set i x = l := by
  obtain ⟨hl, hx⟩ := List.getElem?_eq_some_iff.mp h
  rw [← hx]; exact List.set_getElem_self hl
theorem eVar_same {i : Nat} {d : D} {env : Env} (h : env[i]? = some (some d)) (hf : frz d = d) : eVar i env = .ok d env := by
  rw [eVar_ap, h]
  show R.ok (frz d) (env.set i (some (frz d))) = _
  rw [hf, set_same h]
/-! ### a comprehension that only reads -/
theorem lcL_pure {g : Tg} {ft : M Bool} {fe : M D} {vs : List Nat} {env : Env} (p : D → Bool) (h : D → D) : ∀ (items : List D) (acc : List D), (∀ d ∈ items, ∃ e e2, g d (wipeE env vs) = some e ∧ ft e = .ok (p d) e2 ∧ (p d = false → wipeE e2 vs = wipeE env vs) ∧ (p d = true → ∃ e3, fe e2 = .ok (h d) e3 ∧ wipeE e3 vs = wipeE env vs)) →
    acc.length + items.length ≤ 100000 → ∀ e, wipeE e vs = wipeE env vs → lcL g ft fe vs items acc e = .ok (.olst (acc ++ (items.filter p).map h)) (wipeE env vs)
  | [], acc, _, _, e, he => by rw [lcL, he]; simp
  | d :: r, acc, hd, hl, e, he => by
    obtain ⟨e1, e2, h1, h2, h3, h4⟩ := hd d (by simp)
    rw [List.length_cons] at hl
    rw [lcL, he, h1]
    dsimp only
    rw [h2]
    cases hp : p d with
    | false =>
      have := lcL_pure p h r acc (fun x hx => hd x (by simp [hx])) (by omega) e2 (h3 hp)
      simpa [hp] using this
    | true =>
      obtain ⟨e3, h5, h6⟩ := h4 hp
      have := lcL_pure p h r (acc ++ [h d]) (fun x hx => hd x (by simp [hx])) (by simp; omega) e3 h6
      have hlt : acc.length < 100000 := by omega
      simpa [hp, h5, hlt] using this
/-- the same, where the steps leave the names as they are -/
theorem lcL_keep {g : Tg} {ft : M Bool} {fe : M D} {vs : List Nat} {env : Env} (p : D → Bool) (h : D → D) (items : List D) (hd : ∀ d ∈ items, ∃ e, g d (wipeE env vs) = some e ∧ wipeE e vs = wipeE env vs ∧ ft e = .ok (p d) e ∧ (p d = true → fe e = .ok (h d) e))
    (hl : items.length ≤ 100000) : lcL g ft fe vs items [] env = .ok (.olst ((items.filter p).map h)) (wipeE env vs) := by
  have := lcL_pure (g := g) (ft := ft) (fe := fe) (vs := vs) (env := env) p h items [] (fun d hm => ?_) (by simpa using hl) env rfl
  · simpa using this
  · obtain ⟨e, h1, h2, h3, h4⟩ := hd d hm
    exact ⟨e, e, h1, h3, fun _ => h2, fun q => ⟨e, h4 q, h2⟩⟩
theorem cut_hi {ds : List D} {k : Nat} : cutD ds none (some (k : Int)) = ds.take k := by
  unfold cutD
  rw [show HT.sIx ds.length 0 none = 0 from HT.sIx_none .., show HT.sIx ds.length ds.length (some (k : Int)) = min k ds.length from HT.sIx_nat ..]
  simp [List.take_eq_take_iff]
theorem gSl_lst {ds : List D} {lo hi : Option Int} : gSl (.lst ds) lo hi = some (.olst (cutD ds lo hi)) := (rfl)
theorem gSl_tup_hi {ds : List D} {k : Nat} (h : k < ds.length) : gSl (.tup ds) none (some (k : Int)) = some (.tup (ds.take k)) := by
  unfold gSl
  dsimp only
  rw [if_neg, cut_hi]
  rw [show HT.sIx ds.length ds.length (some (k : Int)) = min k ds.length from HT.sIx_nat ..]
  omega
end VL
namespace K11
open PySem PySem.Spec PyProof.Rows L2 VL
def topS (i : Nat) : Stmt := PySem.Challenge.pw_notring_k11_conds_by_two_sets.main.body.getD i (.Pass ⟨0, 0, 0, 0⟩)
def clsS (i j : Nat) : Stmt := match topS i with | .ClassDef (body := b) .. => b.getD j (.Pass ⟨0, 0, 0, 0⟩) | s => s
abbrev s__law_cell : Stmt := topS 8
abbrev s__law_mix : Stmt := topS 9
abbrev s__law_box : Stmt := topS 10
abbrev s__law_take : Stmt := topS 11
abbrev s__law_listed : Stmt := topS 12
abbrev s__law_drawn : Stmt := topS 13
abbrev s__law_facts : Stmt := topS 15
abbrev s__law_set : Stmt := topS 16
abbrev s_Have_leaning : Stmt := clsS 3 4
abbrev s_Lack_leaning : Stmt := clsS 4 4
abbrev s_Some_leaning : Stmt := clsS 5 4
abbrev s_Lead_leaning : Stmt := clsS 6 4
abbrev s_Lead___init__ : Stmt := clsS 6 0
abbrev s_Have___init__ : Stmt := clsS 3 0
abbrev s_Lack___init__ : Stmt := clsS 4 0
abbrev s_Some___init__ : Stmt := clsS 5 0
abbrev s__law_made : Stmt := topS 14
abbrev s__law_due : Stmt := topS 17
abbrev s_is_in : Stmt := topS 1
abbrev s_Have_carried : Stmt := clsS 3 2
abbrev s_Lack_carried : Stmt := clsS 4 2
abbrev s_Some_carried : Stmt := clsS 5 2
abbrev s_Lead_carried : Stmt := clsS 6 2
abbrev s_Have_blocked : Stmt := clsS 3 3
abbrev s_Lack_blocked : Stmt := clsS 4 3
abbrev s_Some_blocked : Stmt := clsS 5 3
abbrev s_Lead_blocked : Stmt := clsS 6 3
abbrev s_Have_shown : Stmt := clsS 3 1
abbrev s_Lack_shown : Stmt := clsS 4 1
abbrev s_Some_shown : Stmt := clsS 5 1
abbrev s_Lead_shown : Stmt := clsS 6 1
abbrev s__law_fields : Stmt := topS 18
abbrev s__law_right : Stmt := topS 19
abbrev s_law : Stmt := topS 20
structure Txt (K : PySem.W.Frag) (mg : Str → Option Value) where
  a__law_cell : Addr
  d__law_celld : FuncData
  d__law_cell : DefAt K mg "_law_cell" s__law_cell ["_law_script", "_law_k"] a__law_cell d__law_celld
  a__law_mix : Addr
  d__law_mixd : FuncData
  d__law_mix : DefAt K mg "_law_mix" s__law_mix ["_law_cell_here", "_law_k"] a__law_mix d__law_mixd
  a__law_box : Addr
  d__law_boxd : FuncData
  d__law_box : DefAt K mg "_law_box" s__law_box ["_law_script", "_law_k"] a__law_box d__law_boxd
  a__law_take : Addr
  d__law_taked : FuncData
  d__law_take : DefAt K mg "_law_take" s__law_take ["_law_box_here", "_law_many"] a__law_take d__law_taked
  a__law_listed : Addr
  d__law_listedd : FuncData
  d__law_listed : DefAt K mg "_law_listed" s__law_listed ["_law_box_here"] a__law_listed d__law_listedd
  a__law_drawn : Addr
  d__law_drawnd : FuncData
  d__law_drawn : DefAt K mg "_law_drawn" s__law_drawn ["_law_box_here"] a__law_drawn d__law_drawnd
  a__law_facts : Addr
  d__law_factsd : FuncData
  d__law_facts : DefAt K mg "_law_facts" s__law_facts ["_law_told"] a__law_facts d__law_factsd
  a__law_set : Addr
  d__law_setd : FuncData
  d__law_set : DefAt K mg "_law_set" s__law_set ["_law_box_here", "_law_told"] a__law_set d__law_setd
  a_Have_leaning : Addr
  d_Have_leaningd : FuncData
  f_Have_leaning : Fun K "leaning" "Have.leaning" s_Have_leaning a_Have_leaning d_Have_leaningd
  b_Have_leaning : Binds K d_Have_leaningd ["self"] []
  a_Lack_leaning : Addr
  d_Lack_leaningd : FuncData
  f_Lack_leaning : Fun K "leaning" "Lack.leaning" s_Lack_leaning a_Lack_leaning d_Lack_leaningd
  b_Lack_leaning : Binds K d_Lack_leaningd ["self"] []
  a_Some_leaning : Addr
  d_Some_leaningd : FuncData
  f_Some_leaning : Fun K "leaning" "Some.leaning" s_Some_leaning a_Some_leaning d_Some_leaningd
  b_Some_leaning : Binds K d_Some_leaningd ["self"] []
  a_Lead_leaning : Addr
  d_Lead_leaningd : FuncData
  f_Lead_leaning : Fun K "leaning" "Lead.leaning" s_Lead_leaning a_Lead_leaning d_Lead_leaningd
  b_Lead_leaning : Binds K d_Lead_leaningd ["self"] []
  a_Lead___init__ : Addr
  d_Lead___init__d : FuncData
  f_Lead___init__ : Fun K "__init__" "Lead.__init__" s_Lead___init__ a_Lead___init__ d_Lead___init__d
  b_Lead___init__ : Binds K d_Lead___init__d ["self", "facts", "at"] []
  a_Have___init__ : Addr
  d_Have___init__d : FuncData
  f_Have___init__ : Fun K "__init__" "Have.__init__" s_Have___init__ a_Have___init__ d_Have___init__d
  b_Have___init__ : Binds K d_Have___init__d ["self", "fact"] []
  a_Lack___init__ : Addr
  d_Lack___init__d : FuncData
  f_Lack___init__ : Fun K "__init__" "Lack.__init__" s_Lack___init__ a_Lack___init__ d_Lack___init__d
  b_Lack___init__ : Binds K d_Lack___init__d ["self", "fact"] []
  a_Some___init__ : Addr
  d_Some___init__d : FuncData
  f_Some___init__ : Fun K "__init__" "Some.__init__" s_Some___init__ a_Some___init__ d_Some___init__d
  b_Some___init__ : Binds K d_Some___init__d ["self", "number", "facts"] []
  a__law_made : Addr
  d__law_maded : FuncData
  d__law_made : DefAt K mg "_law_made" s__law_made ["_law_told"] a__law_made d__law_maded
  a__law_due : Addr
  d__law_dued : FuncData
  d__law_due : DefAt K mg "_law_due" s__law_due ["_law_told", "_law_have", "_law_may"] a__law_due d__law_dued
  a_is_in : Addr
  d_is_ind : FuncData
  d_is_in : DefAt K mg "is_in" s_is_in ["fact", "facts"] a_is_in d_is_ind
  a_Have_carried : Addr
  d_Have_carriedd : FuncData
  f_Have_carried : Fun K "carried" "Have.carried" s_Have_carried a_Have_carried d_Have_carriedd
  b_Have_carried : Binds K d_Have_carriedd ["self", "have", "may"] []
  a_Lack_carried : Addr
  d_Lack_carriedd : FuncData
  f_Lack_carried : Fun K "carried" "Lack.carried" s_Lack_carried a_Lack_carried d_Lack_carriedd
  b_Lack_carried : Binds K d_Lack_carriedd ["self", "have", "may"] []
  a_Some_carried : Addr
  d_Some_carriedd : FuncData
  f_Some_carried : Fun K "carried" "Some.carried" s_Some_carried a_Some_carried d_Some_carriedd
  b_Some_carried : Binds K d_Some_carriedd ["self", "have", "may"] []
  a_Lead_carried : Addr
  d_Lead_carriedd : FuncData
  f_Lead_carried : Fun K "carried" "Lead.carried" s_Lead_carried a_Lead_carried d_Lead_carriedd
  b_Lead_carried : Binds K d_Lead_carriedd ["self", "have", "may"] []
  a_Have_blocked : Addr
  d_Have_blockedd : FuncData
  f_Have_blocked : Fun K "blocked" "Have.blocked" s_Have_blocked a_Have_blocked d_Have_blockedd
  b_Have_blocked : Binds K d_Have_blockedd ["self", "have", "may"] []
  a_Lack_blocked : Addr
  d_Lack_blockedd : FuncData
  f_Lack_blocked : Fun K "blocked" "Lack.blocked" s_Lack_blocked a_Lack_blocked d_Lack_blockedd
  b_Lack_blocked : Binds K d_Lack_blockedd ["self", "have", "may"] []
  a_Some_blocked : Addr
  d_Some_blockedd : FuncData
  f_Some_blocked : Fun K "blocked" "Some.blocked" s_Some_blocked a_Some_blocked d_Some_blockedd
  b_Some_blocked : Binds K d_Some_blockedd ["self", "have", "may"] []
  a_Lead_blocked : Addr
  d_Lead_blockedd : FuncData
  f_Lead_blocked : Fun K "blocked" "Lead.blocked" s_Lead_blocked a_Lead_blocked d_Lead_blockedd
  b_Lead_blocked : Binds K d_Lead_blockedd ["self", "have", "may"] []
  a_Have_shown : Addr
  d_Have_shownd : FuncData
  f_Have_shown : Fun K "shown" "Have.shown" s_Have_shown a_Have_shown d_Have_shownd
  b_Have_shown : Binds K d_Have_shownd ["self"] []
  a_Lack_shown : Addr
  d_Lack_shownd : FuncData
  f_Lack_shown : Fun K "shown" "Lack.shown" s_Lack_shown a_Lack_shown d_Lack_shownd
  b_Lack_shown : Binds K d_Lack_shownd ["self"] []
  a_Some_shown : Addr
  d_Some_shownd : FuncData
  f_Some_shown : Fun K "shown" "Some.shown" s_Some_shown a_Some_shown d_Some_shownd
  b_Some_shown : Binds K d_Some_shownd ["self"] []
  a_Lead_shown : Addr
  d_Lead_shownd : FuncData
  f_Lead_shown : Fun K "shown" "Lead.shown" s_Lead_shown a_Lead_shown d_Lead_shownd
  b_Lead_shown : Binds K d_Lead_shownd ["self"] []
  a__law_fields : Addr
  d__law_fieldsd : FuncData
  d__law_fields : DefAt K mg "_law_fields" s__law_fields ["_law_one", "_law_told"] a__law_fields d__law_fieldsd
  a__law_right : Addr
  d__law_rightd : FuncData
  d__law_right : DefAt K mg "_law_right" s__law_right ["_law_told", "_law_have", "_law_may"] a__law_right d__law_rightd
  a_law : Addr
  d_lawd : FuncData
  d_law : DefAt K mg "law" s_law ["_law_script"] a_law d_lawd
  A_Have : Addr
  c_Have : ClsAt K mg "Have" A_Have
  A_Lack : Addr
  c_Lack : ClsAt K mg "Lack" A_Lack
  A_Some : Addr
  c_Some : ClsAt K mg "Some" A_Some
  A_Lead : Addr
  c_Lead : ClsAt K mg "Lead" A_Lead
  A_Cond : Addr
  c_Cond : ClsAt K mg "Cond" A_Cond
  i_Have : PySem.W.findIn K (.ref A_Have) "__init__" = some (some (.ref a_Have___init__))
  j_Have : PySem.W.isFn K (.ref a_Have___init__) = true
  i_Lack : PySem.W.findIn K (.ref A_Lack) "__init__" = some (some (.ref a_Lack___init__))
  j_Lack : PySem.W.isFn K (.ref a_Lack___init__) = true
  i_Lead : PySem.W.findIn K (.ref A_Lead) "__init__" = some (some (.ref a_Lead___init__))
  j_Lead : PySem.W.isFn K (.ref a_Lead___init__) = true
  i_Some : PySem.W.findIn K (.ref A_Some) "__init__" = some (some (.ref a_Some___init__))
  j_Some : PySem.W.isFn K (.ref a_Some___init__) = true
  n_Have_fact : NoAttr K A_Have "fact"
  n_Lack_fact : NoAttr K A_Lack "fact"
  n_Lead_at : NoAttr K A_Lead "at"
  n_Lead_facts : NoAttr K A_Lead "facts"
  n_Some_facts : NoAttr K A_Some "facts"
  n_Some_number : NoAttr K A_Some "number"
  h_Have_blocked : Meth K A_Have "blocked" a_Have_blocked
  h_Have_carried : Meth K A_Have "carried" a_Have_carried
  h_Have_leaning : Meth K A_Have "leaning" a_Have_leaning
  h_Have_shown : Meth K A_Have "shown" a_Have_shown
  h_Lack_blocked : Meth K A_Lack "blocked" a_Lack_blocked
  h_Lack_carried : Meth K A_Lack "carried" a_Lack_carried
  h_Lack_leaning : Meth K A_Lack "leaning" a_Lack_leaning
  h_Lack_shown : Meth K A_Lack "shown" a_Lack_shown
  h_Lead_blocked : Meth K A_Lead "blocked" a_Lead_blocked
  h_Lead_carried : Meth K A_Lead "carried" a_Lead_carried
  h_Lead_leaning : Meth K A_Lead "leaning" a_Lead_leaning
  h_Lead_shown : Meth K A_Lead "shown" a_Lead_shown
  h_Some_blocked : Meth K A_Some "blocked" a_Some_blocked
  h_Some_carried : Meth K A_Some "carried" a_Some_carried
  h_Some_leaning : Meth K A_Some "leaning" a_Some_leaning
  h_Some_shown : Meth K A_Some "shown" a_Some_shown
  q_Have_Cond : PySem.W.kitOne K (.ref A_Have) (.ref A_Cond) = some true
  q_Lack_Cond : PySem.W.kitOne K (.ref A_Lack) (.ref A_Cond) = some true
  q_Lead_Cond : PySem.W.kitOne K (.ref A_Lead) (.ref A_Cond) = some true
  q_Some_Cond : PySem.W.kitOne K (.ref A_Some) (.ref A_Cond) = some true
  n_bool : mg "bool" = none
  n_divmod : mg "divmod" = none
  n_isinstance : mg "isinstance" = none
  n_len : mg "len" = none
  n_list : mg "list" = none
  n_max : mg "max" = none
  n_min : mg "min" = none
  n_range : mg "range" = none
  n_sum : mg "sum" = none
  n_tuple : mg "tuple" = none
def m__law_cell : M Fl := (sSeq (sIf (tst (e2 gLt (eVar 1) (eVs bLen (aCons (eVar 0) aNil)))) (sRet (e2 gIx (eVar 0) (eVar 1))) sPass)
  (sRet (e2 gAdd (e2 gMul (eC (.int 7919)) (eVar 1)) (eC (.int 13)))))
def F__law_cell : Fn := runF 2 2 [] m__law_cell
def m__law_mix : M Fl := (sSeq (sAsg (e2 gMod (e2 gAdd (e2 gAdd (e2 gMul (e2 gMod (eVar 0) (eC (.int 2147483647))) (eC (.int 48271))) (e2 gMul (eC (.int 7919)) (eVar 1))) (eC (.int 1))) (eC (.int 2147483647))) (gNm 2))
  (sSeq (sAsg (e2 gMod (e2 gMul (eVar 2) (eVar 2)) (eC (.int 2147483629))) (gNm 2))
  (sRet (e2 gMod (e2 gMul (eVar 2) (e2 gAdd (eVar 2) (eC (.int 13)))) (eC (.int 2147483647))))))
def F__law_mix : Fn := runF 3 2 [] m__law_mix
def b__law_box_1 : M Fl := (sAsg (e2 gAdd (e2 gMul (eVar 3) (eC (.int 2147483647))) (eCall F__law_mix [] (aCons (eVar 2) (aCons (eVar 4) aNil)))) (gNm 3))
def m__law_box : M Fl := (sSeq (sAsg (eCall F__law_cell [] (aCons (eVar 0) (aCons (eVar 1) aNil))) (gNm 2))
  (sSeq (sIf (tst (e2 gEq (e2 gMod (eCall F__law_cell [] (aCons (eVar 0) (aCons (eC (.int 0)) aNil))) (eC (.int 2))) (eC (.int 0)))) (sRet (eVs gLst (aCons (eVar 2) aNil))) sPass)
  (sSeq (sAsg (eC (.int 0)) (gNm 3))
  (sSeq (sFor (iArgs rng1 (aCons (eC (.int 6)) aNil)) (gNm 4) b__law_box_1)
  (sRet (eVs gLst (aCons (eVar 3) aNil)))))))
def F__law_box : Fn := runF 5 2 [] m__law_box
def m__law_take : M Fl := (sSeq (sAsg (eVs bDivmod (aCons (ePk (e2 gIx (eVar 0) (eC (.int 0)))) (aCons (eVar 1) aNil))) (gTp (gsCons (gNm 2) (gsCons (gNm 3) gsNil))))
  (sSeq (sSetIx 0 (eC (.int 0)) (eVar 2))
  (sRet (eMv 3))))
def F__law_take : Fn := runF 4 2 [0] m__law_take
def b__law_listed_1 : M D := (eMt 1 mPopAt (aCons (eCall F__law_take [0] (aSlot 0 (aCons (ePk (eVs bLen (aCons (eVar 1) aNil))) aNil))) aNil))
def m__law_listed : M Fl := (sSeq (sAsg (e1 gLR1 (eC (.int 120))) (gNm 1))
  (sRet (eVs bTuple (aCons (eLc (iArgs rng1 (aCons (e2 gAdd (eC (.int 1)) (eCall F__law_take [0] (aSlot 0 (aCons (eC (.int 6)) aNil)))) aNil)) (gNm 2) tYesM b__law_listed_1 [2]) aNil))))
def F__law_listed : Fn := runF 3 1 [0] m__law_listed
def m__law_drawn : M Fl := (sSeq (sAsg (eCall F__law_take [0] (aSlot 0 (aCons (eC (.int 4)) aNil))) (gNm 1))
  (sSeq (sIf (tst (e2 gEq (eVar 1) (eC (.int 0)))) (sRet (eVs gTup (aCons (eC (.str "have")) (aCons (eCall F__law_take [0] (aSlot 0 (aCons (eC (.int 120)) aNil))) aNil)))) sPass)
  (sSeq (sIf (tst (e2 gEq (eVar 1) (eC (.int 1)))) (sRet (eVs gTup (aCons (eC (.str "lack")) (aCons (eCall F__law_take [0] (aSlot 0 (aCons (eC (.int 120)) aNil))) aNil)))) sPass)
  (sSeq (sAsg (eCall F__law_listed [0] (aSlot 0 aNil)) (gNm 2))
  (sSeq (sIf (tst (e2 gEq (eVar 1) (eC (.int 2)))) (sRet (eVs gTup (aCons (eC (.str "some")) (aCons (e2 gAdd (eC (.int 1)) (eCall F__law_take [0] (aSlot 0 (aCons (eC (.int 6)) aNil)))) (aCons (eVar 2) aNil))))) sPass)
  (sRet (eVs gTup (aCons (eC (.str "lead")) (aCons (eVar 2) (aCons (eCall F__law_take [0] (aSlot 0 (aCons (eVs bLen (aCons (eVar 2) aNil)) aNil))) aNil))))))))))
def F__law_drawn : Fn := runF 3 1 [0] m__law_drawn
def m__law_facts : M Fl := (sSeq (sIf (tst (e2 gEq (e2 gIx (eVar 0) (eC (.int 0))) (eC (.str "some")))) (sRet (eVs bList (aCons (e2 gIx (eVar 0) (eC (.int 2))) aNil))) sPass)
  (sSeq (sIf (tst (e2 gEq (e2 gIx (eVar 0) (eC (.int 0))) (eC (.str "lead")))) (sRet (eVs bList (aCons (e2 gIx (eVar 0) (eC (.int 1))) aNil))) sPass)
  (sRet (eVs gLst (aCons (e2 gIx (eVar 0) (eC (.int 1))) aNil)))))
def F__law_facts : Fn := runF 1 1 [] m__law_facts
def b__law_set_1 : M Fl := (sAsg (e2 gAdd (eVar 2) (e2 gShl (eCall F__law_take [0] (aSlot 0 (aCons (eC (.int 2)) aNil))) (eVar 3))) (gNm 2))
def m__law_set : M Fl := (sSeq (sAsg (eC (.int 0)) (gNm 2))
  (sSeq (sFor (iAny (eCall F__law_facts [] (aCons (eVar 1) aNil))) (gNm 3) b__law_set_1)
  (sSeq (sIf (tst (e2 gEq (eCall F__law_take [0] (aSlot 0 (aCons (eC (.int 2)) aNil))) (eC (.int 0)))) (sAsg (e2 gBor (eVar 2) (eCall F__law_take [0] (aSlot 0 (aCons (e2 gPow (eC (.int 2)) (eC (.int 60))) aNil)))) (gNm 2)) sPass)
  (sRet (eMv 2)))))
def F__law_set : Fn := runF 4 2 [0] m__law_set
def m_Have_leaning : M Fl := (sRet (eVs gLst (aCons (eVs gTup (aCons (e1 (gFld ["Have", "Lack"] "fact") (eVar 0)) (aCons (eC (.bl false)) aNil))) aNil)))
def F_Have_leaning : Fn := runF 1 1 [] m_Have_leaning
def m_Lack_leaning : M Fl := (sRet (eVs gLst (aCons (eVs gTup (aCons (e1 (gFld ["Have", "Lack"] "fact") (eVar 0)) (aCons (eC (.bl true)) aNil))) aNil)))
def F_Lack_leaning : Fn := runF 1 1 [] m_Lack_leaning
def b_Some_leaning_1 : M D := (eVs gTup (aCons (eVar 1) (aCons (eC (.bl false)) aNil)))
def m_Some_leaning : M Fl := (sRet (eLc (iAny (e1 (gFld ["Some", "Lead"] "facts") (eVar 0))) (gNm 1) tYesM b_Some_leaning_1 [1]))
def F_Some_leaning : Fn := runF 2 1 [] m_Some_leaning
def b_Lead_leaning_1 : M D := (eVs gTup (aCons (eVar 1) (aCons (eC (.bl true)) aNil)))
def m_Lead_leaning : M Fl := (sRet (e2 gAdd (eLc (iAny (eSl gSl (e1 (gFld ["Some", "Lead"] "facts") (eVar 0)) oNo (oSo (e1 (gFld ["Lead"] "at") (eVar 0))))) (gNm 1) tYesM b_Lead_leaning_1 [1]) (eVs gLst (aCons (eVs gTup (aCons (e2 gIx (e1 (gFld ["Some", "Lead"] "facts") (eVar 0)) (e1 (gFld ["Lead"] "at") (eVar 0))) (aCons (eC (.bl false)) aNil))) aNil))))
def F_Lead_leaning : Fn := runF 2 1 [] m_Lead_leaning
def m_Lead___init__ : M Fl := (sSeq (sFd ["Some", "Lead"] 0 "facts" (eVs bTuple (aCons (eVar 1) aNil)))
  (sFd ["Lead"] 0 "at" (eVar 2)))
def F_Lead___init__ : Fn := runF 3 3 [0] m_Lead___init__
def m_Have___init__ : M Fl := (sFd ["Have", "Lack"] 0 "fact" (eVar 1))
def F_Have___init__ : Fn := runF 2 2 [0] m_Have___init__
def m_Lack___init__ : M Fl := (sFd ["Have", "Lack"] 0 "fact" (eVar 1))
def F_Lack___init__ : Fn := runF 2 2 [0] m_Lack___init__
def m_Some___init__ : M Fl := (sSeq (sFd ["Some"] 0 "number" (eVar 1))
  (sFd ["Some", "Lead"] 0 "facts" (eVs bTuple (aCons (eVar 2) aNil))))
def F_Some___init__ : Fn := runF 3 3 [0] m_Some___init__
def m__law_made : M Fl := (sSeq (sIf (tst (e2 gEq (e2 gIx (eVar 0) (eC (.int 0))) (eC (.str "have")))) (sRet (eMake "Have" F_Have___init__ [0] (aCons (e2 gIx (eVar 0) (eC (.int 1))) aNil))) sPass)
  (sSeq (sIf (tst (e2 gEq (e2 gIx (eVar 0) (eC (.int 0))) (eC (.str "lack")))) (sRet (eMake "Lack" F_Lack___init__ [0] (aCons (e2 gIx (eVar 0) (eC (.int 1))) aNil))) sPass)
  (sSeq (sIf (tst (e2 gEq (e2 gIx (eVar 0) (eC (.int 0))) (eC (.str "some")))) (sRet (eMake "Some" F_Some___init__ [0] (aCons (e2 gIx (eVar 0) (eC (.int 1))) (aCons (e2 gIx (eVar 0) (eC (.int 2))) aNil)))) sPass)
  (sRet (eMake "Lead" F_Lead___init__ [0] (aCons (e2 gIx (eVar 0) (eC (.int 1))) (aCons (e2 gIx (eVar 0) (eC (.int 2))) aNil)))))))
def F__law_made : Fn := runF 1 1 [] m__law_made
def b__law_due_1 : M D := (e2 gBand (e2 gShr (eVar 1) (eVar 9)) (eC (.int 1)))
def b__law_due_2 : M D := (e2 gBand (e2 gShr (eVar 2) (eVar 9)) (eC (.int 1)))
def b__law_due_3 : M D := (eVs gTup (aCons (eVar 9) (aCons (eC (.bl false)) aNil)))
def b__law_due_4 : M D := (eVs gTup (aCons (eVar 9) (aCons (eC (.bl true)) aNil)))
def m__law_due : M Fl := (sSeq (sAsg (eCall F__law_facts [] (aCons (eVar 0) aNil)) (gNm 3))
  (sSeq (sAsg (eLc (iAny (eVar 3)) (gNm 9) tYesM b__law_due_1 [9]) (gNm 4))
  (sSeq (sAsg (eLc (iAny (eVar 3)) (gNm 9) tYesM b__law_due_2 [9]) (gNm 5))
  (sSeq (sIf (tst (e2 gEq (e2 gIx (eVar 0) (eC (.int 0))) (eC (.str "have")))) (sRet (eVs gTup (aCons (e2 gEq (eVar 4) (eVs gLst (aCons (eC (.int 1)) aNil))) (aCons (e2 gEq (eVar 5) (eVs gLst (aCons (eC (.int 0)) aNil))) (aCons (eVs gLst (aCons (eVs gTup (aCons (e2 gIx (eVar 3) (eC (.int 0))) (aCons (eC (.bl false)) aNil))) aNil)) aNil))))) sPass)
  (sSeq (sIf (tst (e2 gEq (e2 gIx (eVar 0) (eC (.int 0))) (eC (.str "lack")))) (sRet (eVs gTup (aCons (e2 gEq (eVar 5) (eVs gLst (aCons (eC (.int 0)) aNil))) (aCons (e2 gEq (eVar 4) (eVs gLst (aCons (eC (.int 1)) aNil))) (aCons (eVs gLst (aCons (eVs gTup (aCons (e2 gIx (eVar 3) (eC (.int 0))) (aCons (eC (.bl true)) aNil))) aNil)) aNil))))) sPass)
  (sSeq (sIf (tst (e2 gEq (e2 gIx (eVar 0) (eC (.int 0))) (eC (.str "some")))) (sRet (eVs gTup (aCons (e2 gGe (eVs bSum (aCons (eVar 4) aNil)) (e2 gIx (eVar 0) (eC (.int 1)))) (aCons (e2 gLt (eVs bSum (aCons (eVar 5) aNil)) (e2 gIx (eVar 0) (eC (.int 1)))) (aCons (eLc (iAny (eVar 3)) (gNm 9) tYesM b__law_due_3 [9]) aNil))))) sPass)
  (sSeq (sAsg (e2 gIx (eVar 0) (eC (.int 2))) (gNm 6))
  (sSeq (sAsg (e2 gAdd (eLc (iAny (eSl gSl (eVar 3) oNo (oSo (eVar 6)))) (gNm 9) tYesM b__law_due_4 [9]) (eVs gLst (aCons (eVs gTup (aCons (e2 gIx (eVar 3) (eVar 6)) (aCons (eC (.bl false)) aNil))) aNil))) (gNm 7))
  (sSeq (sAsg (eAnd (e2 gEq (e2 gIx (eVar 4) (eVar 6)) (eC (.int 1))) (e2 gNotIn (eC (.int 1)) (eSl gSl (eVar 5) oNo (oSo (eVar 6))))) (gNm 8))
  (sRet (eVs gTup (aCons (eVar 8) (aCons (eOr (e2 gEq (e2 gIx (eVar 5) (eVar 6)) (eC (.int 0))) (e2 gIn (eC (.int 1)) (eSl gSl (eVar 4) oNo (oSo (eVar 6))))) (aCons (eVar 7) aNil))))))))))))))
def F__law_due : Fn := runF 10 3 [] m__law_due
def m_is_in : M Fl := (sRet (e2 gEq (e2 gBand (e2 gShr (eVar 1) (eVar 0)) (eC (.int 1))) (eC (.int 1))))
def F_is_in : Fn := runF 2 2 [] m_is_in
def m_Have_carried : M Fl := (sRet (eCall F_is_in [] (aCons (e1 (gFld ["Have", "Lack"] "fact") (eVar 0)) (aCons (eVar 1) aNil))))
def F_Have_carried : Fn := runF 3 3 [] m_Have_carried
def m_Lack_carried : M Fl := (sRet (eNot (eCall F_is_in [] (aCons (e1 (gFld ["Have", "Lack"] "fact") (eVar 0)) (aCons (eVar 2) aNil)))))
def F_Lack_carried : Fn := runF 3 3 [] m_Lack_carried
def b_Some_carried_1 : M D := (eVar 3)
def m_Some_carried : M Fl := (sRet (e2 gGe (eVs bLen (aCons (eLc (iAny (e1 (gFld ["Some", "Lead"] "facts") (eVar 0))) (gNm 3) (tst (eCall F_is_in [] (aCons (eVar 3) (aCons (eVar 1) aNil)))) b_Some_carried_1 [3]) aNil)) (e1 (gFld ["Some"] "number") (eVar 0))))
def F_Some_carried : Fn := runF 4 3 [] m_Some_carried
def b_Lead_carried_1 : M D := (eVar 4)
def m_Lead_carried : M Fl := (sSeq (sAsg (eLc (iAny (eSl gSl (e1 (gFld ["Some", "Lead"] "facts") (eVar 0)) oNo (oSo (e1 (gFld ["Lead"] "at") (eVar 0))))) (gNm 4) (tst (eCall F_is_in [] (aCons (eVar 4) (aCons (eVar 2) aNil)))) b_Lead_carried_1 [4]) (gNm 3))
  (sRet (eAnd (eCall F_is_in [] (aCons (e2 gIx (e1 (gFld ["Some", "Lead"] "facts") (eVar 0)) (e1 (gFld ["Lead"] "at") (eVar 0))) (aCons (eVar 1) aNil))) (e2 gEq (eVar 3) (eVs gLst aNil)))))
def F_Lead_carried : Fn := runF 5 3 [] m_Lead_carried
def m_Have_blocked : M Fl := (sRet (eNot (eCall F_is_in [] (aCons (e1 (gFld ["Have", "Lack"] "fact") (eVar 0)) (aCons (eVar 2) aNil)))))
def F_Have_blocked : Fn := runF 3 3 [] m_Have_blocked
def m_Lack_blocked : M Fl := (sRet (eCall F_is_in [] (aCons (e1 (gFld ["Have", "Lack"] "fact") (eVar 0)) (aCons (eVar 1) aNil))))
def F_Lack_blocked : Fn := runF 3 3 [] m_Lack_blocked
def b_Some_blocked_1 : M D := (eVar 3)
def m_Some_blocked : M Fl := (sRet (e2 gLt (eVs bLen (aCons (eLc (iAny (e1 (gFld ["Some", "Lead"] "facts") (eVar 0))) (gNm 3) (tst (eCall F_is_in [] (aCons (eVar 3) (aCons (eVar 2) aNil)))) b_Some_blocked_1 [3]) aNil)) (e1 (gFld ["Some"] "number") (eVar 0))))
def F_Some_blocked : Fn := runF 4 3 [] m_Some_blocked
def b_Lead_blocked_1 : M D := (eVar 4)
def m_Lead_blocked : M Fl := (sSeq (sAsg (eLc (iAny (eSl gSl (e1 (gFld ["Some", "Lead"] "facts") (eVar 0)) oNo (oSo (e1 (gFld ["Lead"] "at") (eVar 0))))) (gNm 4) (tst (eCall F_is_in [] (aCons (eVar 4) (aCons (eVar 1) aNil)))) b_Lead_blocked_1 [4]) (gNm 3))
  (sRet (eOr (eNot (eCall F_is_in [] (aCons (e2 gIx (e1 (gFld ["Some", "Lead"] "facts") (eVar 0)) (e1 (gFld ["Lead"] "at") (eVar 0))) (aCons (eVar 2) aNil)))) (e2 gNe (eVar 3) (eVs gLst aNil)))))
def F_Lead_blocked : Fn := runF 5 3 [] m_Lead_blocked
def m_Have_shown : M Fl := (sRet (eVs gTup (aCons (eC (.str "have")) (aCons (e1 (gFld ["Have", "Lack"] "fact") (eVar 0)) aNil))))
def F_Have_shown : Fn := runF 1 1 [] m_Have_shown
def m_Lack_shown : M Fl := (sRet (eVs gTup (aCons (eC (.str "lack")) (aCons (e1 (gFld ["Have", "Lack"] "fact") (eVar 0)) aNil))))
def F_Lack_shown : Fn := runF 1 1 [] m_Lack_shown
def m_Some_shown : M Fl := (sRet (eVs gTup (aCons (eC (.str "some")) (aCons (e1 (gFld ["Some"] "number") (eVar 0)) (aCons (e1 (gFld ["Some", "Lead"] "facts") (eVar 0)) aNil)))))
def F_Some_shown : Fn := runF 1 1 [] m_Some_shown
def m_Lead_shown : M Fl := (sRet (eVs gTup (aCons (eC (.str "lead")) (aCons (e1 (gFld ["Some", "Lead"] "facts") (eVar 0)) (aCons (e1 (gFld ["Lead"] "at") (eVar 0)) aNil)))))
def F_Lead_shown : Fn := runF 1 1 [] m_Lead_shown
def m__law_fields : M Fl := (sSeq (sIf (tst (e2 gEq (e2 gIx (eVar 1) (eC (.int 0))) (eC (.str "some")))) (sRet (eAnd (e2 gEq (e1 (gFld ["Some"] "number") (eVar 0)) (e2 gIx (eVar 1) (eC (.int 1)))) (e2 gEq (e1 (gFld ["Some", "Lead"] "facts") (eVar 0)) (e2 gIx (eVar 1) (eC (.int 2)))))) sPass)
  (sSeq (sIf (tst (e2 gEq (e2 gIx (eVar 1) (eC (.int 0))) (eC (.str "lead")))) (sRet (eAnd (e2 gEq (e1 (gFld ["Some", "Lead"] "facts") (eVar 0)) (e2 gIx (eVar 1) (eC (.int 1)))) (e2 gEq (e1 (gFld ["Lead"] "at") (eVar 0)) (e2 gIx (eVar 1) (eC (.int 2)))))) sPass)
  (sRet (e2 gEq (e1 (gFld ["Have", "Lack"] "fact") (eVar 0)) (e2 gIx (eVar 1) (eC (.int 1)))))))
def F__law_fields : Fn := runF 2 2 [] m__law_fields
def m__law_right : M Fl := (sSeq (sAsg (eCall F__law_made [] (aCons (eVar 0) aNil)) (gNm 3))
  (sSeq (sAsg (eCall F__law_due [] (aCons (eVar 0) (aCons (eVar 1) (aCons (eVar 2) aNil)))) (gNm 4))
  (sSeq (sIf (tOrM (tNotM (tst (e1 (gIsC [("Have", true), ("Lack", true), ("Some", true), ("Lead", true)]) (eVar 3)))) (tOrM (tst (e2 gNe (eMeth [("Have", F_Have_shown), ("Lack", F_Lack_shown), ("Some", F_Some_shown), ("Lead", F_Lead_shown)] "shown" [] (eVar 3) aNil) (eVar 0))) (tNotM (tst (eCall F__law_fields [] (aCons (eVar 3) (aCons (eVar 0) aNil))))))) (sRet (eC (.bl false))) sPass)
  (sSeq (sAsg (eVs gLst (aCons (eMeth [("Have", F_Have_carried), ("Lack", F_Lack_carried), ("Some", F_Some_carried), ("Lead", F_Lead_carried)] "carried" [] (eVar 3) (aCons (eVar 1) (aCons (eVar 2) aNil))) (aCons (eMeth [("Have", F_Have_blocked), ("Lack", F_Lack_blocked), ("Some", F_Some_blocked), ("Lead", F_Lead_blocked)] "blocked" [] (eVar 3) (aCons (eVar 1) (aCons (eVar 2) aNil))) aNil))) (gNm 5))
  (sSeq (sIf (tOrM (tNotM (tst (e1 (gIsi "bool") (e2 gIx (eVar 5) (eC (.int 0)))))) (tOrM (tNotM (tst (e1 (gIsi "bool") (e2 gIx (eVar 5) (eC (.int 1)))))) (tst (e2 gNe (eVar 5) (eVs gLst (aCons (e2 gIx (eVar 4) (eC (.int 0))) (aCons (e2 gIx (eVar 4) (eC (.int 1))) aNil))))))) (sRet (eC (.bl false))) sPass)
  (sSeq (sAsg (eMeth [("Have", F_Have_leaning), ("Lack", F_Lack_leaning), ("Some", F_Some_leaning), ("Lead", F_Lead_leaning)] "leaning" [] (eVar 3) aNil) (gNm 6))
  (sSeq (sIf (tOrM (tNotM (tst (ePk (e1 (gIsi "list") (eVar 6))))) (tPk (tst (e2 gNe (eVar 6) (e2 gIx (eVar 4) (eC (.int 2))))))) (sRet (eC (.bl false))) sPass)
  (sSeq (sDrop (eMt 6 mClear aNil))
  (sRet (eAnd (e2 gEq (eMeth [("Have", F_Have_leaning), ("Lack", F_Lack_leaning), ("Some", F_Some_leaning), ("Lead", F_Lead_leaning)] "leaning" [] (eVar 3) aNil) (e2 gIx (eVar 4) (eC (.int 2)))) (e2 gEq (eMeth [("Have", F_Have_shown), ("Lack", F_Lack_shown), ("Some", F_Some_shown), ("Lead", F_Lead_shown)] "shown" [] (eVar 3) aNil) (eVar 0))))))))))))
def F__law_right : Fn := runF 7 3 [] m__law_right
def b_law_1 : M Fl := (sSeq (sAsg (eCall F__law_box [] (aCons (eVar 0) (aCons (eVar 1) aNil))) (gNm 2))
  (sSeq (sAsg (eCall F__law_drawn [0] (aSlot 2 aNil)) (gNm 3))
  (sSeq (sAsg (eCall F__law_set [0] (aSlot 2 (aCons (eVar 3) aNil))) (gNm 4))
  (sIf (tOrM (tNotM (tst (eCall F__law_right [] (aCons (eVar 3) (aCons (eVar 4) (aCons (e2 gBor (eVar 4) (eCall F__law_set [0] (aSlot 2 (aCons (eVar 3) aNil)))) aNil)))))) (tNotM (tst (eCall F__law_right [] (aCons (eVar 3) (aCons (eVar 4) (aCons (eCall F__law_set [0] (aSlot 2 (aCons (eVar 3) aNil))) aNil))))))) (sRet (eC (.bl false))) sPass))))
def m_law : M Fl := (sSeq (sFor (iArgs rng2 (aCons (eC (.int 1)) (aCons (eVs bMax2 (aCons (eC (.int 2)) (aCons (eVs bMin2 (aCons (eVs bLen (aCons (eVar 0) aNil)) (aCons (eC (.int 60)) aNil))) aNil))) aNil))) (gNm 1) b_law_1)
  (sRet (eC (.bl true))))
def F_law : Fn := runF 5 1 [] m_law
section
variable {P : Program} {w : World} {K : PySem.W.Frag} {mg : Str → Option Value} {base : Heap}
theorem sc__law_cell : FnScope ["_law_script", "_law_k"] ["_law_script", "_law_k"] (defScope s__law_cell) := ⟨rfl, rfl, rfl, by decide +kernel, rfl, by decide +kernel, by decide +kernel⟩
theorem ok__law_cell (T : Txt K mg) : FnOk P w K mg base CX0 1 T.a__law_cell T.d__law_celld ["_law_script", "_law_k"] (spV ⟨K, mg⟩ [] F__law_cell) := by
  have nd := sc__law_cell.nd
  exact fn_ok T.d__law_cell.fn sc__law_cell (by decide) (by decide) fun cdv A outer s H E hr => (ss_cons (s_if (pt_c o_lt (pe_v 1 (pv 1)) (pe_b (b_len rfl) (by rfl) T.n_len bt_len (pa_1 (pe_v 0 (pv 0)) pa_0)) (by rfl)) (ss_one (s_ret (pe_i (o_ix rfl) (pe_v 0 (pv 0)) (pe_v 1 (pv 1)) (fun _ _ => rfl)))) ss_nil)
    (ss_one (s_ret (pe_2 (o_add rfl) (pe_2 o_mul (pe_k pe_int) (pe_v 1 (pv 1))) (pe_k pe_int)))))
theorem sc__law_mix : FnScope ["_law_cell_here", "_law_k", "_law_number"] ["_law_cell_here", "_law_k"] (defScope s__law_mix) := ⟨rfl, rfl, rfl, by decide +kernel, rfl, by decide +kernel, by decide +kernel⟩
theorem ok__law_mix (T : Txt K mg) : FnOk P w K mg base CX0 1 T.a__law_mix T.d__law_mixd ["_law_cell_here", "_law_k"] (spV ⟨K, mg⟩ [] F__law_mix) := by
  have nd := sc__law_mix.nd
  exact fn_ok T.d__law_mix.fn sc__law_mix (by decide) (by decide) fun cdv A outer s H E hr => (ss_cons (s_set 2 nd rfl (Or.inl rfl) (pe_2 o_mod (pe_2 (o_add rfl) (pe_2 (o_add rfl) (pe_2 o_mul (pe_2 o_mod (pe_v 0 (pv 0)) (pe_k pe_int)) (pe_k pe_int)) (pe_2 o_mul (pe_k pe_int) (pe_v 1 (pv 1)))) (pe_k pe_int)) (pe_k pe_int)))
    (ss_cons (s_set 2 nd rfl (Or.inl rfl) (pe_2 o_mod (pe_2 o_mul (pe_v 2 (pv 2)) (pe_v 2 (pv 2))) (pe_k pe_int)))
    (ss_one (s_ret (pe_2 o_mod (pe_2 o_mul (pe_v 2 (pv 2)) (pe_2 (o_add rfl) (pe_v 2 (pv 2)) (pe_k pe_int))) (pe_k pe_int))))))
theorem sc__law_box : FnScope ["_law_script", "_law_k", "_law_cell_here", "_law_number", "_law_j"] ["_law_script", "_law_k"] (defScope s__law_box) := ⟨rfl, rfl, rfl, by decide +kernel, rfl, by decide +kernel, by decide +kernel⟩
theorem ok__law_box (T : Txt K mg) : FnOk P w K mg base CX0 2 T.a__law_box T.d__law_boxd ["_law_script", "_law_k"] (spV ⟨K, mg⟩ [] F__law_box) := by
  have nd := sc__law_box.nd
  exact fn_ok T.d__law_box.fn sc__law_box (by decide) (by decide) fun cdv A outer s H E hr => (ss_cons (s_set 2 nd rfl (Or.inl rfl) (pe_f (ok__law_cell T) runF_noX (hr.mono (by decide)) (by rfl) T.d__law_cell.g T.d__law_cell.fn.kp T.d__law_cell.b pass0 (pa_1 (pe_v 0 (pv 0)) (pa_1 (pe_v 1 (pv 1)) pa_0))))
    (ss_cons (s_if (pt_c (o_eq rfl hr.units) (pe_2 o_mod (pe_f (ok__law_cell T) runF_noX (hr.mono (by decide)) (by rfl) T.d__law_cell.g T.d__law_cell.fn.kp T.d__law_cell.b pass0 (pa_1 (pe_v 0 (pv 0)) (pa_1 (pe_k pe_int) pa_0))) (pe_k pe_int)) (pe_k pe_int) (by rfl)) (ss_one (s_ret (pe_l (pa_1 (pe_v 2 (pv 2)) pa_0)))) ss_nil)
    (ss_cons (s_set 3 nd rfl (Or.inl rfl) (pe_k pe_int))
    (ss_cons (s_for PassesOwn.never rfl (pi_r1 (by rfl) T.n_range (pa_1 (pe_k pe_int) pa_0)) (g_nm 4 (pg_name (i := 4) nd rfl (Or.inl rfl))) (ss_one (s_set 3 nd rfl (Or.inl rfl) (pe_2 (o_add rfl) (pe_2 o_mul (pe_v 3 (pv 3)) (pe_k pe_int)) (pe_f (ok__law_mix T) runF_noX (hr.mono (by decide)) (by rfl) T.d__law_mix.g T.d__law_mix.fn.kp T.d__law_mix.b pass0 (pa_1 (pe_v 2 (pv 2)) (pa_1 (pe_v 4 (pv 4)) pa_0)))))))
    (ss_one (s_ret (pe_l (pa_1 (pe_v 3 (pv 3)) pa_0))))))))
theorem sc__law_take : FnScope ["_law_box_here", "_law_many", "_law_number", "_law_digit"] ["_law_box_here", "_law_many"] (defScope s__law_take) := ⟨rfl, rfl, rfl, by decide +kernel, rfl, by decide +kernel, by decide +kernel⟩
theorem ok__law_take (T : Txt K mg) : FnOk P w K mg base CX0 1 T.a__law_take T.d__law_taked ["_law_box_here", "_law_many"] (spV ⟨K, mg⟩ [0] F__law_take) := by
  have nd := sc__law_take.nd
  exact fn_ok T.d__law_take.fn sc__law_take (by decide) (by decide) fun cdv A outer s H E hr => (ss_cons (s_asg (pe_b b_divmod (by rfl) T.n_divmod bt_divmod (pa_1 (pe_pk (pe_i (o_ix rfl) (pe_v 0 (pv 0)) (pe_k pe_int) (fun _ _ => rfl))) (pa_1 (pe_v 1 (pv 1)) pa_0))) (g_tp 2 rfl (gs_1 (g_nm 2 (pg_name (i := 2) nd rfl (Or.inl rfl))) (gs_1 (g_nm 3 (pg_name (i := 3) nd rfl (Or.inl rfl))) gs_0)) rfl (gl_1 (gl_1 gl_0))))
    (ss_cons (s_setIx 0 (pv 0) (pe_k pe_int) (pe_v 2 (pv 2)))
    (ss_one (s_ret (pe_mv 3 (pv 3))))))
theorem sc__law_listed : FnScope ["_law_box_here", "_law_left", "_law_k"] ["_law_box_here"] (defScope s__law_listed) := ⟨rfl, rfl, rfl, by decide +kernel, rfl, by decide +kernel, by decide +kernel⟩
theorem ok__law_listed (T : Txt K mg) : FnOk P w K mg base CX0 2 T.a__law_listed T.d__law_listedd ["_law_box_here"] (spV ⟨K, mg⟩ [0] F__law_listed) := by
  have nd := sc__law_listed.nd
  exact fn_ok T.d__law_listed.fn sc__law_listed (by decide) (by decide) fun cdv A outer s H E hr => (ss_cons (s_set 1 nd rfl (Or.inr rfl) (pe_lr1 rfl (by rfl) T.n_list (by rfl) T.n_range (pe_k pe_int)))
    (ss_one (s_ret (pe_ty (b_tuple rfl) (by rfl) T.n_tuple bt_tuple (pa_1 (pe_lcM (own := [("_law_k", 2)]) (js := [2]) rfl nd (pi_r1 (by rfl) T.n_range (pa_1 (pe_2 (o_add rfl) (pe_k pe_int) (pe_f (ok__law_take T) runF_noX (hr.mono (by decide)) (by rfl) T.d__law_take.g T.d__law_take.fn.kp T.d__law_take.b pass0 (pa_s 0 (pv 0) (pa_1 (pe_k pe_int) pa_0)))) pa_0)) (blkOk_by (N := ["_law_box_here", "_law_left", "_law_k"]) (sc := defScope s__law_listed) (by decide +kernel)) (fun _ _ _ _ _ => (g_nm 2 (pg_name (i := 2) nd rfl (Or.inl rfl)))) (fun _ _ _ _ _ => pts_0) (fun _ _ _ _ _ => (pe_popAt 1 (pv 1) (pa_1 (pe_f (ok__law_take T) runF_noX (hr.mono (by decide)) (by rfl) T.d__law_take.g T.d__law_take.fn.kp T.d__law_take.b pass0 (pa_s 0 (pv 0) (pa_1 (pe_pk (pe_b (b_len rfl) (by rfl) T.n_len bt_len (pa_1 (pe_v 1 (pv 1)) pa_0))) pa_0))) pa_0)))) pa_0)))))
theorem sc__law_drawn : FnScope ["_law_box_here", "_law_way", "_law_facts_here"] ["_law_box_here"] (defScope s__law_drawn) := ⟨rfl, rfl, rfl, by decide +kernel, rfl, by decide +kernel, by decide +kernel⟩
theorem ok__law_drawn (T : Txt K mg) : FnOk P w K mg base CX0 3 T.a__law_drawn T.d__law_drawnd ["_law_box_here"] (spV ⟨K, mg⟩ [0] F__law_drawn) := by
  have nd := sc__law_drawn.nd
  exact fn_ok T.d__law_drawn.fn sc__law_drawn (by decide) (by decide) fun cdv A outer s H E hr => (ss_cons (s_set 1 nd rfl (Or.inl rfl) (pe_f (ok__law_take T) runF_noX (hr.mono (by decide)) (by rfl) T.d__law_take.g T.d__law_take.fn.kp T.d__law_take.b pass0 (pa_s 0 (pv 0) (pa_1 (pe_k pe_int) pa_0))))
    (ss_cons (s_if (pt_c (o_eq rfl hr.units) (pe_v 1 (pv 1)) (pe_k pe_int) (by rfl)) (ss_one (s_ret (pe_t (pa_1 (pe_k pe_str) (pa_1 (pe_f (ok__law_take T) runF_noX (hr.mono (by decide)) (by rfl) T.d__law_take.g T.d__law_take.fn.kp T.d__law_take.b pass0 (pa_s 0 (pv 0) (pa_1 (pe_k pe_int) pa_0))) pa_0))))) ss_nil)
    (ss_cons (s_if (pt_c (o_eq rfl hr.units) (pe_v 1 (pv 1)) (pe_k pe_int) (by rfl)) (ss_one (s_ret (pe_t (pa_1 (pe_k pe_str) (pa_1 (pe_f (ok__law_take T) runF_noX (hr.mono (by decide)) (by rfl) T.d__law_take.g T.d__law_take.fn.kp T.d__law_take.b pass0 (pa_s 0 (pv 0) (pa_1 (pe_k pe_int) pa_0))) pa_0))))) ss_nil)
    (ss_cons (s_set 2 nd rfl (Or.inl rfl) (pe_f (ok__law_listed T) runF_noX (hr.mono (by decide)) (by rfl) T.d__law_listed.g T.d__law_listed.fn.kp T.d__law_listed.b pass0 (pa_s 0 (pv 0) pa_0)))
    (ss_cons (s_if (pt_c (o_eq rfl hr.units) (pe_v 1 (pv 1)) (pe_k pe_int) (by rfl)) (ss_one (s_ret (pe_t (pa_1 (pe_k pe_str) (pa_1 (pe_2 (o_add rfl) (pe_k pe_int) (pe_f (ok__law_take T) runF_noX (hr.mono (by decide)) (by rfl) T.d__law_take.g T.d__law_take.fn.kp T.d__law_take.b pass0 (pa_s 0 (pv 0) (pa_1 (pe_k pe_int) pa_0)))) (pa_1 (pe_v 2 (pv 2)) pa_0)))))) ss_nil)
    (ss_one (s_ret (pe_t (pa_1 (pe_k pe_str) (pa_1 (pe_v 2 (pv 2)) (pa_1 (pe_f (ok__law_take T) runF_noX (hr.mono (by decide)) (by rfl) T.d__law_take.g T.d__law_take.fn.kp T.d__law_take.b pass0 (pa_s 0 (pv 0) (pa_1 (pe_b (b_len rfl) (by rfl) T.n_len bt_len (pa_1 (pe_v 2 (pv 2)) pa_0)) pa_0))) pa_0)))))))))))
theorem sc__law_facts : FnScope ["_law_told"] ["_law_told"] (defScope s__law_facts) := ⟨rfl, rfl, rfl, by decide +kernel, rfl, by decide +kernel, by decide +kernel⟩
theorem ok__law_facts (T : Txt K mg) : FnOk P w K mg base CX0 1 T.a__law_facts T.d__law_factsd ["_law_told"] (spV ⟨K, mg⟩ [] F__law_facts) := by
  have nd := sc__law_facts.nd
  exact fn_ok T.d__law_facts.fn sc__law_facts (by decide) (by decide) fun cdv A outer s H E hr => (ss_cons (s_if (pt_c (o_eq rfl hr.units) (pe_i (o_ix rfl) (pe_v 0 (pv 0)) (pe_k pe_int) (fun _ _ => rfl)) (pe_k pe_str) (by rfl)) (ss_one (s_ret (pe_ty (b_list rfl) (by rfl) T.n_list bt_list (pa_1 (pe_i (o_ix rfl) (pe_v 0 (pv 0)) (pe_k pe_int) (fun _ _ => rfl)) pa_0)))) ss_nil)
    (ss_cons (s_if (pt_c (o_eq rfl hr.units) (pe_i (o_ix rfl) (pe_v 0 (pv 0)) (pe_k pe_int) (fun _ _ => rfl)) (pe_k pe_str) (by rfl)) (ss_one (s_ret (pe_ty (b_list rfl) (by rfl) T.n_list bt_list (pa_1 (pe_i (o_ix rfl) (pe_v 0 (pv 0)) (pe_k pe_int) (fun _ _ => rfl)) pa_0)))) ss_nil)
    (ss_one (s_ret (pe_l (pa_1 (pe_i (o_ix rfl) (pe_v 0 (pv 0)) (pe_k pe_int) (fun _ _ => rfl)) pa_0))))))
theorem sc__law_set : FnScope ["_law_box_here", "_law_told", "_law_found", "_law_fact"] ["_law_box_here", "_law_told"] (defScope s__law_set) := ⟨rfl, rfl, rfl, by decide +kernel, rfl, by decide +kernel, by decide +kernel⟩
theorem ok__law_set (T : Txt K mg) : FnOk P w K mg base CX0 2 T.a__law_set T.d__law_setd ["_law_box_here", "_law_told"] (spV ⟨K, mg⟩ [0] F__law_set) := by
  have nd := sc__law_set.nd
  exact fn_ok T.d__law_set.fn sc__law_set (by decide) (by decide) fun cdv A outer s H E hr => (ss_cons (s_set 2 nd rfl (Or.inl rfl) (pe_k pe_int))
    (ss_cons (s_for PassesOwn.never rfl (pi_any rfl (pe_f (ok__law_facts T) runF_noX (hr.mono (by decide)) (by rfl) T.d__law_facts.g T.d__law_facts.fn.kp T.d__law_facts.b pass0 (pa_1 (pe_v 1 (pv 1)) pa_0))) (g_nm 3 (pg_name (i := 3) nd rfl (Or.inl rfl))) (ss_one (s_set 2 nd rfl (Or.inl rfl) (pe_2 (o_add rfl) (pe_v 2 (pv 2)) (pe_2 o_shl (pe_f (ok__law_take T) runF_noX (hr.mono (by decide)) (by rfl) T.d__law_take.g T.d__law_take.fn.kp T.d__law_take.b pass0 (pa_s 0 (pv 0) (pa_1 (pe_k pe_int) pa_0))) (pe_v 3 (pv 3)))))))
    (ss_cons (s_if (pt_c (o_eq rfl hr.units) (pe_f (ok__law_take T) runF_noX (hr.mono (by decide)) (by rfl) T.d__law_take.g T.d__law_take.fn.kp T.d__law_take.b pass0 (pa_s 0 (pv 0) (pa_1 (pe_k pe_int) pa_0))) (pe_k pe_int) (by rfl)) (ss_one (s_set 2 nd rfl (Or.inl rfl) (pe_2 o_or (pe_v 2 (pv 2)) (pe_f (ok__law_take T) runF_noX (hr.mono (by decide)) (by rfl) T.d__law_take.g T.d__law_take.fn.kp T.d__law_take.b pass0 (pa_s 0 (pv 0) (pa_1 (pe_2 o_pow (pe_k pe_int) (pe_k pe_int)) pa_0)))))) ss_nil)
    (ss_one (s_ret (pe_mv 2 (pv 2)))))))
theorem sc_Have_leaning : FnScope ["self"] ["self"] (defScope s_Have_leaning) := ⟨rfl, rfl, rfl, by decide +kernel, rfl, by decide +kernel, by decide +kernel⟩
theorem ok_Have_leaning (T : Txt K mg) : FnOk P w K mg base CX0 1 T.a_Have_leaning T.d_Have_leaningd ["self"] (spV ⟨K, mg⟩ [] F_Have_leaning) := by
  have nd := sc_Have_leaning.nd
  exact fn_ok T.f_Have_leaning sc_Have_leaning (by decide) (by decide) fun cdv A outer s H E hr => (ss_one (s_ret (pe_l (pa_1 (pe_t (pa_1 (pe_fd (f := "fact") (cs := ["Have", "Lack"]) (fdTab_cons T.c_Have T.n_Have_fact (fdTab_cons T.c_Lack T.n_Lack_fact fdTab_nil)) (pe_v 0 (pv 0))) (pa_1 (pe_k pe_bl) pa_0))) pa_0))))
theorem sc_Lack_leaning : FnScope ["self"] ["self"] (defScope s_Lack_leaning) := ⟨rfl, rfl, rfl, by decide +kernel, rfl, by decide +kernel, by decide +kernel⟩
theorem ok_Lack_leaning (T : Txt K mg) : FnOk P w K mg base CX0 1 T.a_Lack_leaning T.d_Lack_leaningd ["self"] (spV ⟨K, mg⟩ [] F_Lack_leaning) := by
  have nd := sc_Lack_leaning.nd
  exact fn_ok T.f_Lack_leaning sc_Lack_leaning (by decide) (by decide) fun cdv A outer s H E hr => (ss_one (s_ret (pe_l (pa_1 (pe_t (pa_1 (pe_fd (f := "fact") (cs := ["Have", "Lack"]) (fdTab_cons T.c_Have T.n_Have_fact (fdTab_cons T.c_Lack T.n_Lack_fact fdTab_nil)) (pe_v 0 (pv 0))) (pa_1 (pe_k pe_bl) pa_0))) pa_0))))
theorem sc_Some_leaning : FnScope ["self", "fact"] ["self"] (defScope s_Some_leaning) := ⟨rfl, rfl, rfl, by decide +kernel, rfl, by decide +kernel, by decide +kernel⟩
theorem ok_Some_leaning (T : Txt K mg) : FnOk P w K mg base CX0 1 T.a_Some_leaning T.d_Some_leaningd ["self"] (spV ⟨K, mg⟩ [] F_Some_leaning) := by
  have nd := sc_Some_leaning.nd
  exact fn_ok T.f_Some_leaning sc_Some_leaning (by decide) (by decide) fun cdv A outer s H E hr => (ss_one (s_ret (pe_lcM (own := [("fact", 1)]) (js := [1]) rfl nd (pi_any rfl (pe_fd (f := "facts") (cs := ["Some", "Lead"]) (fdTab_cons T.c_Some T.n_Some_facts (fdTab_cons T.c_Lead T.n_Lead_facts fdTab_nil)) (pe_v 0 (pv 0)))) (blkOk_by (N := ["self", "fact"]) (sc := defScope s_Some_leaning) (by decide +kernel)) (fun _ _ _ _ _ => (g_nm 1 (pg_name (i := 1) nd rfl (Or.inl rfl)))) (fun _ _ _ _ _ => pts_0) (fun _ _ _ _ _ => (pe_t (pa_1 (pe_v 1 (pv 1)) (pa_1 (pe_k pe_bl) pa_0)))))))
theorem sc_Lead_leaning : FnScope ["self", "fact"] ["self"] (defScope s_Lead_leaning) := ⟨rfl, rfl, rfl, by decide +kernel, rfl, by decide +kernel, by decide +kernel⟩
theorem ok_Lead_leaning (T : Txt K mg) : FnOk P w K mg base CX0 1 T.a_Lead_leaning T.d_Lead_leaningd ["self"] (spV ⟨K, mg⟩ [] F_Lead_leaning) := by
  have nd := sc_Lead_leaning.nd
  exact fn_ok T.f_Lead_leaning sc_Lead_leaning (by decide) (by decide) fun cdv A outer s H E hr => (ss_one (s_ret (pe_2 (o_add rfl) (pe_lcM (own := [("fact", 1)]) (js := [1]) rfl nd (pi_any rfl (pe_sl rfl (pe_fd (f := "facts") (cs := ["Some", "Lead"]) (fdTab_cons T.c_Some T.n_Some_facts (fdTab_cons T.c_Lead T.n_Lead_facts fdTab_nil)) (pe_v 0 (pv 0))) po_n (po_s (pe_fd (f := "at") (cs := ["Lead"]) (fdTab_cons T.c_Lead T.n_Lead_at fdTab_nil) (pe_v 0 (pv 0)))))) (blkOk_by (N := ["self", "fact"]) (sc := defScope s_Lead_leaning) (by decide +kernel)) (fun _ _ _ _ _ => (g_nm 1 (pg_name (i := 1) nd rfl (Or.inl rfl)))) (fun _ _ _ _ _ => pts_0) (fun _ _ _ _ _ => (pe_t (pa_1 (pe_v 1 (pv 1)) (pa_1 (pe_k pe_bl) pa_0))))) (pe_l (pa_1 (pe_t (pa_1 (pe_i (o_ix rfl) (pe_fd (f := "facts") (cs := ["Some", "Lead"]) (fdTab_cons T.c_Some T.n_Some_facts (fdTab_cons T.c_Lead T.n_Lead_facts fdTab_nil)) (pe_v 0 (pv 0))) (pe_fd (f := "at") (cs := ["Lead"]) (fdTab_cons T.c_Lead T.n_Lead_at fdTab_nil) (pe_v 0 (pv 0))) (fun _ _ => rfl)) (pa_1 (pe_k pe_bl) pa_0))) pa_0)))))
theorem sc_Lead___init__ : FnScope ["self", "facts", "at"] ["self", "facts", "at"] (defScope s_Lead___init__) := ⟨rfl, rfl, rfl, by decide +kernel, rfl, by decide +kernel, by decide +kernel⟩
theorem ok_Lead___init__ (T : Txt K mg) : FnOk P w K mg base CX0 1 T.a_Lead___init__ T.d_Lead___init__d ["self", "facts", "at"] (spV ⟨K, mg⟩ [0] F_Lead___init__) := by
  have nd := sc_Lead___init__.nd
  exact fn_ok T.f_Lead___init__ sc_Lead___init__ (by decide) (by decide) fun cdv A outer s H E hr => (ss_cons (s_fld (f := "facts") (cs := ["Some", "Lead"]) 0 (fdTab_cons T.c_Some T.n_Some_facts (fdTab_cons T.c_Lead T.n_Lead_facts fdTab_nil)) (pv 0) (pe_ty (b_tuple rfl) (by rfl) T.n_tuple bt_tuple (pa_1 (pe_v 1 (pv 1)) pa_0)))
    (ss_one (s_fld (f := "at") (cs := ["Lead"]) 0 (fdTab_cons T.c_Lead T.n_Lead_at fdTab_nil) (pv 0) (pe_v 2 (pv 2)))))
theorem sc_Have___init__ : FnScope ["self", "fact"] ["self", "fact"] (defScope s_Have___init__) := ⟨rfl, rfl, rfl, by decide +kernel, rfl, by decide +kernel, by decide +kernel⟩
theorem ok_Have___init__ (T : Txt K mg) : FnOk P w K mg base CX0 1 T.a_Have___init__ T.d_Have___init__d ["self", "fact"] (spV ⟨K, mg⟩ [0] F_Have___init__) := by
  have nd := sc_Have___init__.nd
  exact fn_ok T.f_Have___init__ sc_Have___init__ (by decide) (by decide) fun cdv A outer s H E hr => (ss_one (s_fld (f := "fact") (cs := ["Have", "Lack"]) 0 (fdTab_cons T.c_Have T.n_Have_fact (fdTab_cons T.c_Lack T.n_Lack_fact fdTab_nil)) (pv 0) (pe_v 1 (pv 1))))
theorem sc_Lack___init__ : FnScope ["self", "fact"] ["self", "fact"] (defScope s_Lack___init__) := ⟨rfl, rfl, rfl, by decide +kernel, rfl, by decide +kernel, by decide +kernel⟩
theorem ok_Lack___init__ (T : Txt K mg) : FnOk P w K mg base CX0 1 T.a_Lack___init__ T.d_Lack___init__d ["self", "fact"] (spV ⟨K, mg⟩ [0] F_Lack___init__) := by
  have nd := sc_Lack___init__.nd
  exact fn_ok T.f_Lack___init__ sc_Lack___init__ (by decide) (by decide) fun cdv A outer s H E hr => (ss_one (s_fld (f := "fact") (cs := ["Have", "Lack"]) 0 (fdTab_cons T.c_Have T.n_Have_fact (fdTab_cons T.c_Lack T.n_Lack_fact fdTab_nil)) (pv 0) (pe_v 1 (pv 1))))
theorem sc_Some___init__ : FnScope ["self", "number", "facts"] ["self", "number", "facts"] (defScope s_Some___init__) := ⟨rfl, rfl, rfl, by decide +kernel, rfl, by decide +kernel, by decide +kernel⟩
theorem ok_Some___init__ (T : Txt K mg) : FnOk P w K mg base CX0 1 T.a_Some___init__ T.d_Some___init__d ["self", "number", "facts"] (spV ⟨K, mg⟩ [0] F_Some___init__) := by
  have nd := sc_Some___init__.nd
  exact fn_ok T.f_Some___init__ sc_Some___init__ (by decide) (by decide) fun cdv A outer s H E hr => (ss_cons (s_fld (f := "number") (cs := ["Some"]) 0 (fdTab_cons T.c_Some T.n_Some_number fdTab_nil) (pv 0) (pe_v 1 (pv 1)))
    (ss_one (s_fld (f := "facts") (cs := ["Some", "Lead"]) 0 (fdTab_cons T.c_Some T.n_Some_facts (fdTab_cons T.c_Lead T.n_Lead_facts fdTab_nil)) (pv 0) (pe_ty (b_tuple rfl) (by rfl) T.n_tuple bt_tuple (pa_1 (pe_v 2 (pv 2)) pa_0)))))
theorem sc__law_made : FnScope ["_law_told"] ["_law_told"] (defScope s__law_made) := ⟨rfl, rfl, rfl, by decide +kernel, rfl, by decide +kernel, by decide +kernel⟩
theorem ok__law_made (T : Txt K mg) : FnOk P w K mg base CX0 3 T.a__law_made T.d__law_maded ["_law_told"] (spV ⟨K, mg⟩ [] F__law_made) := by
  have nd := sc__law_made.nd
  exact fn_ok T.d__law_made.fn sc__law_made (by decide) (by decide) fun cdv A outer s H E hr => (ss_cons (s_if (pt_c (o_eq rfl hr.units) (pe_i (o_ix rfl) (pe_v 0 (pv 0)) (pe_k pe_int) (fun _ _ => rfl)) (pe_k pe_str) (by rfl)) (ss_one (s_ret (pe_mk T.c_Have rfl T.i_Have T.j_Have (ok_Have___init__ T) runF_noX (hr.mono (by decide)) (by rfl) T.b_Have___init__ (pa_1 (pe_i (o_ix rfl) (pe_v 0 (pv 0)) (pe_k pe_int) (fun _ _ => rfl)) pa_0)))) ss_nil)
    (ss_cons (s_if (pt_c (o_eq rfl hr.units) (pe_i (o_ix rfl) (pe_v 0 (pv 0)) (pe_k pe_int) (fun _ _ => rfl)) (pe_k pe_str) (by rfl)) (ss_one (s_ret (pe_mk T.c_Lack rfl T.i_Lack T.j_Lack (ok_Lack___init__ T) runF_noX (hr.mono (by decide)) (by rfl) T.b_Lack___init__ (pa_1 (pe_i (o_ix rfl) (pe_v 0 (pv 0)) (pe_k pe_int) (fun _ _ => rfl)) pa_0)))) ss_nil)
    (ss_cons (s_if (pt_c (o_eq rfl hr.units) (pe_i (o_ix rfl) (pe_v 0 (pv 0)) (pe_k pe_int) (fun _ _ => rfl)) (pe_k pe_str) (by rfl)) (ss_one (s_ret (pe_mk T.c_Some rfl T.i_Some T.j_Some (ok_Some___init__ T) runF_noX (hr.mono (by decide)) (by rfl) T.b_Some___init__ (pa_1 (pe_i (o_ix rfl) (pe_v 0 (pv 0)) (pe_k pe_int) (fun _ _ => rfl)) (pa_1 (pe_i (o_ix rfl) (pe_v 0 (pv 0)) (pe_k pe_int) (fun _ _ => rfl)) pa_0))))) ss_nil)
    (ss_one (s_ret (pe_mk T.c_Lead rfl T.i_Lead T.j_Lead (ok_Lead___init__ T) runF_noX (hr.mono (by decide)) (by rfl) T.b_Lead___init__ (pa_1 (pe_i (o_ix rfl) (pe_v 0 (pv 0)) (pe_k pe_int) (fun _ _ => rfl)) (pa_1 (pe_i (o_ix rfl) (pe_v 0 (pv 0)) (pe_k pe_int) (fun _ _ => rfl)) pa_0))))))))
theorem sc__law_due : FnScope ["_law_told", "_law_have", "_law_may", "_law_facts_here", "_law_there", "_law_open_ones", "_law_at", "_law_leans", "_law_carried", "_law_fact"] ["_law_told", "_law_have", "_law_may"] (defScope s__law_due) := ⟨rfl, rfl, rfl, by decide +kernel, rfl, by decide +kernel, by decide +kernel⟩
theorem ok__law_due (T : Txt K mg) : FnOk P w K mg base CX0 2 T.a__law_due T.d__law_dued ["_law_told", "_law_have", "_law_may"] (spV ⟨K, mg⟩ [] F__law_due) := by
  have nd := sc__law_due.nd
  exact fn_ok T.d__law_due.fn sc__law_due (by decide) (by decide) fun cdv A outer s H E hr => (ss_cons (s_set 3 nd rfl (Or.inl rfl) (pe_f (ok__law_facts T) runF_noX (hr.mono (by decide)) (by rfl) T.d__law_facts.g T.d__law_facts.fn.kp T.d__law_facts.b pass0 (pa_1 (pe_v 0 (pv 0)) pa_0)))
    (ss_cons (s_setLc (own := [("_law_fact", 9)]) (js := [9]) 4 rfl nd rfl rfl (sw_true rfl rfl rfl (by decide +kernel)) (pi_any rfl (pe_v 3 (pv 3))) (blkOk_by (N := ["_law_told", "_law_have", "_law_may", "_law_facts_here", "_law_there", "_law_open_ones", "_law_at", "_law_leans", "_law_carried", "_law_fact"]) (sc := defScope s__law_due) (by decide +kernel)) (fun _ _ _ _ _ => (g_nm 9 (pg_name (i := 9) nd rfl (Or.inl rfl)))) (fun _ _ _ _ _ => pts_0) (fun _ _ _ _ _ => (pe_2 o_and (pe_2 o_shr (pe_v 1 (pv 1)) (pe_v 9 (pv 9))) (pe_k pe_int))))
    (ss_cons (s_setLc (own := [("_law_fact", 9)]) (js := [9]) 5 rfl nd rfl rfl (sw_true rfl rfl rfl (by decide +kernel)) (pi_any rfl (pe_v 3 (pv 3))) (blkOk_by (N := ["_law_told", "_law_have", "_law_may", "_law_facts_here", "_law_there", "_law_open_ones", "_law_at", "_law_leans", "_law_carried", "_law_fact"]) (sc := defScope s__law_due) (by decide +kernel)) (fun _ _ _ _ _ => (g_nm 9 (pg_name (i := 9) nd rfl (Or.inl rfl)))) (fun _ _ _ _ _ => pts_0) (fun _ _ _ _ _ => (pe_2 o_and (pe_2 o_shr (pe_v 2 (pv 2)) (pe_v 9 (pv 9))) (pe_k pe_int))))
    (ss_cons (s_if (pt_c (o_eq rfl hr.units) (pe_i (o_ix rfl) (pe_v 0 (pv 0)) (pe_k pe_int) (fun _ _ => rfl)) (pe_k pe_str) (by rfl)) (ss_one (s_ret (pe_t (pa_1 (pe_c (o_eq rfl hr.units) (pe_v 4 (pv 4)) (pe_l (pa_1 (pe_k pe_int) pa_0)) (by rfl)) (pa_1 (pe_c (o_eq rfl hr.units) (pe_v 5 (pv 5)) (pe_l (pa_1 (pe_k pe_int) pa_0)) (by rfl)) (pa_1 (pe_l (pa_1 (pe_t (pa_1 (pe_i (o_ix rfl) (pe_v 3 (pv 3)) (pe_k pe_int) (fun _ _ => rfl)) (pa_1 (pe_k pe_bl) pa_0))) pa_0)) pa_0)))))) ss_nil)
    (ss_cons (s_if (pt_c (o_eq rfl hr.units) (pe_i (o_ix rfl) (pe_v 0 (pv 0)) (pe_k pe_int) (fun _ _ => rfl)) (pe_k pe_str) (by rfl)) (ss_one (s_ret (pe_t (pa_1 (pe_c (o_eq rfl hr.units) (pe_v 5 (pv 5)) (pe_l (pa_1 (pe_k pe_int) pa_0)) (by rfl)) (pa_1 (pe_c (o_eq rfl hr.units) (pe_v 4 (pv 4)) (pe_l (pa_1 (pe_k pe_int) pa_0)) (by rfl)) (pa_1 (pe_l (pa_1 (pe_t (pa_1 (pe_i (o_ix rfl) (pe_v 3 (pv 3)) (pe_k pe_int) (fun _ _ => rfl)) (pa_1 (pe_k pe_bl) pa_0))) pa_0)) pa_0)))))) ss_nil)
    (ss_cons (s_if (pt_c (o_eq rfl hr.units) (pe_i (o_ix rfl) (pe_v 0 (pv 0)) (pe_k pe_int) (fun _ _ => rfl)) (pe_k pe_str) (by rfl)) (ss_one (s_ret (pe_t (pa_1 (pe_c o_ge (pe_b (b_sum rfl rfl) (by rfl) T.n_sum bt_sum (pa_1 (pe_v 4 (pv 4)) pa_0)) (pe_i (o_ix rfl) (pe_v 0 (pv 0)) (pe_k pe_int) (fun _ _ => rfl)) (by rfl)) (pa_1 (pe_c o_lt (pe_b (b_sum rfl rfl) (by rfl) T.n_sum bt_sum (pa_1 (pe_v 5 (pv 5)) pa_0)) (pe_i (o_ix rfl) (pe_v 0 (pv 0)) (pe_k pe_int) (fun _ _ => rfl)) (by rfl)) (pa_1 (pe_lcM (own := [("_law_fact", 9)]) (js := [9]) rfl nd (pi_any rfl (pe_v 3 (pv 3))) (blkOk_by (N := ["_law_told", "_law_have", "_law_may", "_law_facts_here", "_law_there", "_law_open_ones", "_law_at", "_law_leans", "_law_carried", "_law_fact"]) (sc := defScope s__law_due) (by decide +kernel)) (fun _ _ _ _ _ => (g_nm 9 (pg_name (i := 9) nd rfl (Or.inl rfl)))) (fun _ _ _ _ _ => pts_0) (fun _ _ _ _ _ => (pe_t (pa_1 (pe_v 9 (pv 9)) (pa_1 (pe_k pe_bl) pa_0))))) pa_0)))))) ss_nil)
    (ss_cons (s_set 6 nd rfl (Or.inl rfl) (pe_i (o_ix rfl) (pe_v 0 (pv 0)) (pe_k pe_int) (fun _ _ => rfl)))
    (ss_cons (s_set 7 nd rfl (Or.inl rfl) (pe_2 (o_add rfl) (pe_lcM (own := [("_law_fact", 9)]) (js := [9]) rfl nd (pi_any rfl (pe_sl rfl (pe_v 3 (pv 3)) po_n (po_s (pe_v 6 (pv 6))))) (blkOk_by (N := ["_law_told", "_law_have", "_law_may", "_law_facts_here", "_law_there", "_law_open_ones", "_law_at", "_law_leans", "_law_carried", "_law_fact"]) (sc := defScope s__law_due) (by decide +kernel)) (fun _ _ _ _ _ => (g_nm 9 (pg_name (i := 9) nd rfl (Or.inl rfl)))) (fun _ _ _ _ _ => pts_0) (fun _ _ _ _ _ => (pe_t (pa_1 (pe_v 9 (pv 9)) (pa_1 (pe_k pe_bl) pa_0))))) (pe_l (pa_1 (pe_t (pa_1 (pe_i (o_ix rfl) (pe_v 3 (pv 3)) (pe_v 6 (pv 6)) (fun _ _ => rfl)) (pa_1 (pe_k pe_bl) pa_0))) pa_0))))
    (ss_cons (s_set 8 nd rfl (Or.inl rfl) (pe_a (pe_c (o_eq rfl hr.units) (pe_i (o_ix rfl) (pe_v 4 (pv 4)) (pe_v 6 (pv 6)) (fun _ _ => rfl)) (pe_k pe_int) (by rfl)) (pe_1 (pe_c (o_notIn rfl hr.units65) (pe_k pe_int) (pe_sl rfl (pe_v 5 (pv 5)) po_n (po_s (pe_v 6 (pv 6)))) (by rfl)))))
    (ss_one (s_ret (pe_t (pa_1 (pe_v 8 (pv 8)) (pa_1 (pe_o (pe_c (o_eq rfl hr.units) (pe_i (o_ix rfl) (pe_v 5 (pv 5)) (pe_v 6 (pv 6)) (fun _ _ => rfl)) (pe_k pe_int) (by rfl)) (pe_1 (pe_c (o_in rfl hr.units65) (pe_k pe_int) (pe_sl rfl (pe_v 4 (pv 4)) po_n (po_s (pe_v 6 (pv 6)))) (by rfl)))) (pa_1 (pe_v 7 (pv 7)) pa_0)))))))))))))))
theorem sc_is_in : FnScope ["fact", "facts"] ["fact", "facts"] (defScope s_is_in) := ⟨rfl, rfl, rfl, by decide +kernel, rfl, by decide +kernel, by decide +kernel⟩
theorem ok_is_in (T : Txt K mg) : FnOk P w K mg base CX0 1 T.a_is_in T.d_is_ind ["fact", "facts"] (spV ⟨K, mg⟩ [] F_is_in) := by
  have nd := sc_is_in.nd
  exact fn_ok T.d_is_in.fn sc_is_in (by decide) (by decide) fun cdv A outer s H E hr => (ss_one (s_ret (pe_c (o_eq rfl hr.units) (pe_2 o_and (pe_2 o_shr (pe_v 1 (pv 1)) (pe_v 0 (pv 0))) (pe_k pe_int)) (pe_k pe_int) (by rfl))))
theorem sc_Have_carried : FnScope ["self", "have", "may"] ["self", "have", "may"] (defScope s_Have_carried) := ⟨rfl, rfl, rfl, by decide +kernel, rfl, by decide +kernel, by decide +kernel⟩
theorem ok_Have_carried (T : Txt K mg) : FnOk P w K mg base CX0 2 T.a_Have_carried T.d_Have_carriedd ["self", "have", "may"] (spV ⟨K, mg⟩ [] F_Have_carried) := by
  have nd := sc_Have_carried.nd
  exact fn_ok T.f_Have_carried sc_Have_carried (by decide) (by decide) fun cdv A outer s H E hr => (ss_one (s_ret (pe_f (ok_is_in T) runF_noX (hr.mono (by decide)) (by rfl) T.d_is_in.g T.d_is_in.fn.kp T.d_is_in.b pass0 (pa_1 (pe_fd (f := "fact") (cs := ["Have", "Lack"]) (fdTab_cons T.c_Have T.n_Have_fact (fdTab_cons T.c_Lack T.n_Lack_fact fdTab_nil)) (pe_v 0 (pv 0))) (pa_1 (pe_v 1 (pv 1)) pa_0)))))
theorem sc_Lack_carried : FnScope ["self", "have", "may"] ["self", "have", "may"] (defScope s_Lack_carried) := ⟨rfl, rfl, rfl, by decide +kernel, rfl, by decide +kernel, by decide +kernel⟩
theorem ok_Lack_carried (T : Txt K mg) : FnOk P w K mg base CX0 2 T.a_Lack_carried T.d_Lack_carriedd ["self", "have", "may"] (spV ⟨K, mg⟩ [] F_Lack_carried) := by
  have nd := sc_Lack_carried.nd
  exact fn_ok T.f_Lack_carried sc_Lack_carried (by decide) (by decide) fun cdv A outer s H E hr => (ss_one (s_ret (pe_n (pe_f (ok_is_in T) runF_noX (hr.mono (by decide)) (by rfl) T.d_is_in.g T.d_is_in.fn.kp T.d_is_in.b pass0 (pa_1 (pe_fd (f := "fact") (cs := ["Have", "Lack"]) (fdTab_cons T.c_Have T.n_Have_fact (fdTab_cons T.c_Lack T.n_Lack_fact fdTab_nil)) (pe_v 0 (pv 0))) (pa_1 (pe_v 2 (pv 2)) pa_0))))))
theorem sc_Some_carried : FnScope ["self", "have", "may", "fact"] ["self", "have", "may"] (defScope s_Some_carried) := ⟨rfl, rfl, rfl, by decide +kernel, rfl, by decide +kernel, by decide +kernel⟩
theorem ok_Some_carried (T : Txt K mg) : FnOk P w K mg base CX0 2 T.a_Some_carried T.d_Some_carriedd ["self", "have", "may"] (spV ⟨K, mg⟩ [] F_Some_carried) := by
  have nd := sc_Some_carried.nd
  exact fn_ok T.f_Some_carried sc_Some_carried (by decide) (by decide) fun cdv A outer s H E hr => (ss_one (s_ret (pe_c o_ge (pe_b (b_len rfl) (by rfl) T.n_len bt_len (pa_1 (pe_lcM (own := [("fact", 3)]) (js := [3]) rfl nd (pi_any rfl (pe_fd (f := "facts") (cs := ["Some", "Lead"]) (fdTab_cons T.c_Some T.n_Some_facts (fdTab_cons T.c_Lead T.n_Lead_facts fdTab_nil)) (pe_v 0 (pv 0)))) (blkOk_by (N := ["self", "have", "may", "fact"]) (sc := defScope s_Some_carried) (by decide +kernel)) (fun _ _ _ _ _ => (g_nm 3 (pg_name (i := 3) nd rfl (Or.inl rfl)))) (fun _ _ _ _ _ => (pts_1 (pt_v (pe_f (ok_is_in T) runF_noX (hr.mono (by decide)) (by rfl) T.d_is_in.g T.d_is_in.fn.kp T.d_is_in.b pass0 (pa_1 (pe_v 3 (pv 3)) (pa_1 (pe_v 1 (pv 1)) pa_0)))))) (fun _ _ _ _ _ => (pe_v 3 (pv 3)))) pa_0)) (pe_fd (f := "number") (cs := ["Some"]) (fdTab_cons T.c_Some T.n_Some_number fdTab_nil) (pe_v 0 (pv 0))) (by rfl))))
theorem sc_Lead_carried : FnScope ["self", "have", "may", "ahead", "fact"] ["self", "have", "may"] (defScope s_Lead_carried) := ⟨rfl, rfl, rfl, by decide +kernel, rfl, by decide +kernel, by decide +kernel⟩
theorem ok_Lead_carried (T : Txt K mg) : FnOk P w K mg base CX0 2 T.a_Lead_carried T.d_Lead_carriedd ["self", "have", "may"] (spV ⟨K, mg⟩ [] F_Lead_carried) := by
  have nd := sc_Lead_carried.nd
  exact fn_ok T.f_Lead_carried sc_Lead_carried (by decide) (by decide) fun cdv A outer s H E hr => (ss_cons (s_setLc (own := [("fact", 4)]) (js := [4]) 3 rfl nd rfl rfl (sw_true rfl rfl rfl (by decide +kernel)) (pi_any rfl (pe_sl rfl (pe_fd (f := "facts") (cs := ["Some", "Lead"]) (fdTab_cons T.c_Some T.n_Some_facts (fdTab_cons T.c_Lead T.n_Lead_facts fdTab_nil)) (pe_v 0 (pv 0))) po_n (po_s (pe_fd (f := "at") (cs := ["Lead"]) (fdTab_cons T.c_Lead T.n_Lead_at fdTab_nil) (pe_v 0 (pv 0)))))) (blkOk_by (N := ["self", "have", "may", "ahead", "fact"]) (sc := defScope s_Lead_carried) (by decide +kernel)) (fun _ _ _ _ _ => (g_nm 4 (pg_name (i := 4) nd rfl (Or.inl rfl)))) (fun _ _ _ _ _ => (pts_1 (pt_v (pe_f (ok_is_in T) runF_noX (hr.mono (by decide)) (by rfl) T.d_is_in.g T.d_is_in.fn.kp T.d_is_in.b pass0 (pa_1 (pe_v 4 (pv 4)) (pa_1 (pe_v 2 (pv 2)) pa_0)))))) (fun _ _ _ _ _ => (pe_v 4 (pv 4))))
    (ss_one (s_ret (pe_a (pe_f (ok_is_in T) runF_noX (hr.mono (by decide)) (by rfl) T.d_is_in.g T.d_is_in.fn.kp T.d_is_in.b pass0 (pa_1 (pe_i (o_ix rfl) (pe_fd (f := "facts") (cs := ["Some", "Lead"]) (fdTab_cons T.c_Some T.n_Some_facts (fdTab_cons T.c_Lead T.n_Lead_facts fdTab_nil)) (pe_v 0 (pv 0))) (pe_fd (f := "at") (cs := ["Lead"]) (fdTab_cons T.c_Lead T.n_Lead_at fdTab_nil) (pe_v 0 (pv 0))) (fun _ _ => rfl)) (pa_1 (pe_v 1 (pv 1)) pa_0))) (pe_1 (pe_c (o_eq rfl hr.units) (pe_v 3 (pv 3)) (pe_l pa_0) (by rfl)))))))
theorem sc_Have_blocked : FnScope ["self", "have", "may"] ["self", "have", "may"] (defScope s_Have_blocked) := ⟨rfl, rfl, rfl, by decide +kernel, rfl, by decide +kernel, by decide +kernel⟩
theorem ok_Have_blocked (T : Txt K mg) : FnOk P w K mg base CX0 2 T.a_Have_blocked T.d_Have_blockedd ["self", "have", "may"] (spV ⟨K, mg⟩ [] F_Have_blocked) := by
  have nd := sc_Have_blocked.nd
  exact fn_ok T.f_Have_blocked sc_Have_blocked (by decide) (by decide) fun cdv A outer s H E hr => (ss_one (s_ret (pe_n (pe_f (ok_is_in T) runF_noX (hr.mono (by decide)) (by rfl) T.d_is_in.g T.d_is_in.fn.kp T.d_is_in.b pass0 (pa_1 (pe_fd (f := "fact") (cs := ["Have", "Lack"]) (fdTab_cons T.c_Have T.n_Have_fact (fdTab_cons T.c_Lack T.n_Lack_fact fdTab_nil)) (pe_v 0 (pv 0))) (pa_1 (pe_v 2 (pv 2)) pa_0))))))
theorem sc_Lack_blocked : FnScope ["self", "have", "may"] ["self", "have", "may"] (defScope s_Lack_blocked) := ⟨rfl, rfl, rfl, by decide +kernel, rfl, by decide +kernel, by decide +kernel⟩
theorem ok_Lack_blocked (T : Txt K mg) : FnOk P w K mg base CX0 2 T.a_Lack_blocked T.d_Lack_blockedd ["self", "have", "may"] (spV ⟨K, mg⟩ [] F_Lack_blocked) := by
  have nd := sc_Lack_blocked.nd
  exact fn_ok T.f_Lack_blocked sc_Lack_blocked (by decide) (by decide) fun cdv A outer s H E hr => (ss_one (s_ret (pe_f (ok_is_in T) runF_noX (hr.mono (by decide)) (by rfl) T.d_is_in.g T.d_is_in.fn.kp T.d_is_in.b pass0 (pa_1 (pe_fd (f := "fact") (cs := ["Have", "Lack"]) (fdTab_cons T.c_Have T.n_Have_fact (fdTab_cons T.c_Lack T.n_Lack_fact fdTab_nil)) (pe_v 0 (pv 0))) (pa_1 (pe_v 1 (pv 1)) pa_0)))))
theorem sc_Some_blocked : FnScope ["self", "have", "may", "fact"] ["self", "have", "may"] (defScope s_Some_blocked) := ⟨rfl, rfl, rfl, by decide +kernel, rfl, by decide +kernel, by decide +kernel⟩
theorem ok_Some_blocked (T : Txt K mg) : FnOk P w K mg base CX0 2 T.a_Some_blocked T.d_Some_blockedd ["self", "have", "may"] (spV ⟨K, mg⟩ [] F_Some_blocked) := by
  have nd := sc_Some_blocked.nd
  exact fn_ok T.f_Some_blocked sc_Some_blocked (by decide) (by decide) fun cdv A outer s H E hr => (ss_one (s_ret (pe_c o_lt (pe_b (b_len rfl) (by rfl) T.n_len bt_len (pa_1 (pe_lcM (own := [("fact", 3)]) (js := [3]) rfl nd (pi_any rfl (pe_fd (f := "facts") (cs := ["Some", "Lead"]) (fdTab_cons T.c_Some T.n_Some_facts (fdTab_cons T.c_Lead T.n_Lead_facts fdTab_nil)) (pe_v 0 (pv 0)))) (blkOk_by (N := ["self", "have", "may", "fact"]) (sc := defScope s_Some_blocked) (by decide +kernel)) (fun _ _ _ _ _ => (g_nm 3 (pg_name (i := 3) nd rfl (Or.inl rfl)))) (fun _ _ _ _ _ => (pts_1 (pt_v (pe_f (ok_is_in T) runF_noX (hr.mono (by decide)) (by rfl) T.d_is_in.g T.d_is_in.fn.kp T.d_is_in.b pass0 (pa_1 (pe_v 3 (pv 3)) (pa_1 (pe_v 2 (pv 2)) pa_0)))))) (fun _ _ _ _ _ => (pe_v 3 (pv 3)))) pa_0)) (pe_fd (f := "number") (cs := ["Some"]) (fdTab_cons T.c_Some T.n_Some_number fdTab_nil) (pe_v 0 (pv 0))) (by rfl))))
theorem sc_Lead_blocked : FnScope ["self", "have", "may", "ahead", "fact"] ["self", "have", "may"] (defScope s_Lead_blocked) := ⟨rfl, rfl, rfl, by decide +kernel, rfl, by decide +kernel, by decide +kernel⟩
theorem ok_Lead_blocked (T : Txt K mg) : FnOk P w K mg base CX0 2 T.a_Lead_blocked T.d_Lead_blockedd ["self", "have", "may"] (spV ⟨K, mg⟩ [] F_Lead_blocked) := by
  have nd := sc_Lead_blocked.nd
  exact fn_ok T.f_Lead_blocked sc_Lead_blocked (by decide) (by decide) fun cdv A outer s H E hr => (ss_cons (s_setLc (own := [("fact", 4)]) (js := [4]) 3 rfl nd rfl rfl (sw_true rfl rfl rfl (by decide +kernel)) (pi_any rfl (pe_sl rfl (pe_fd (f := "facts") (cs := ["Some", "Lead"]) (fdTab_cons T.c_Some T.n_Some_facts (fdTab_cons T.c_Lead T.n_Lead_facts fdTab_nil)) (pe_v 0 (pv 0))) po_n (po_s (pe_fd (f := "at") (cs := ["Lead"]) (fdTab_cons T.c_Lead T.n_Lead_at fdTab_nil) (pe_v 0 (pv 0)))))) (blkOk_by (N := ["self", "have", "may", "ahead", "fact"]) (sc := defScope s_Lead_blocked) (by decide +kernel)) (fun _ _ _ _ _ => (g_nm 4 (pg_name (i := 4) nd rfl (Or.inl rfl)))) (fun _ _ _ _ _ => (pts_1 (pt_v (pe_f (ok_is_in T) runF_noX (hr.mono (by decide)) (by rfl) T.d_is_in.g T.d_is_in.fn.kp T.d_is_in.b pass0 (pa_1 (pe_v 4 (pv 4)) (pa_1 (pe_v 1 (pv 1)) pa_0)))))) (fun _ _ _ _ _ => (pe_v 4 (pv 4))))
    (ss_one (s_ret (pe_o (pe_n (pe_f (ok_is_in T) runF_noX (hr.mono (by decide)) (by rfl) T.d_is_in.g T.d_is_in.fn.kp T.d_is_in.b pass0 (pa_1 (pe_i (o_ix rfl) (pe_fd (f := "facts") (cs := ["Some", "Lead"]) (fdTab_cons T.c_Some T.n_Some_facts (fdTab_cons T.c_Lead T.n_Lead_facts fdTab_nil)) (pe_v 0 (pv 0))) (pe_fd (f := "at") (cs := ["Lead"]) (fdTab_cons T.c_Lead T.n_Lead_at fdTab_nil) (pe_v 0 (pv 0))) (fun _ _ => rfl)) (pa_1 (pe_v 2 (pv 2)) pa_0)))) (pe_1 (pe_c (o_ne rfl hr.units) (pe_v 3 (pv 3)) (pe_l pa_0) (by rfl)))))))
theorem sc_Have_shown : FnScope ["self"] ["self"] (defScope s_Have_shown) := ⟨rfl, rfl, rfl, by decide +kernel, rfl, by decide +kernel, by decide +kernel⟩
theorem ok_Have_shown (T : Txt K mg) : FnOk P w K mg base CX0 1 T.a_Have_shown T.d_Have_shownd ["self"] (spV ⟨K, mg⟩ [] F_Have_shown) := by
  have nd := sc_Have_shown.nd
  exact fn_ok T.f_Have_shown sc_Have_shown (by decide) (by decide) fun cdv A outer s H E hr => (ss_one (s_ret (pe_t (pa_1 (pe_k pe_str) (pa_1 (pe_fd (f := "fact") (cs := ["Have", "Lack"]) (fdTab_cons T.c_Have T.n_Have_fact (fdTab_cons T.c_Lack T.n_Lack_fact fdTab_nil)) (pe_v 0 (pv 0))) pa_0)))))
theorem sc_Lack_shown : FnScope ["self"] ["self"] (defScope s_Lack_shown) := ⟨rfl, rfl, rfl, by decide +kernel, rfl, by decide +kernel, by decide +kernel⟩
theorem ok_Lack_shown (T : Txt K mg) : FnOk P w K mg base CX0 1 T.a_Lack_shown T.d_Lack_shownd ["self"] (spV ⟨K, mg⟩ [] F_Lack_shown) := by
  have nd := sc_Lack_shown.nd
  exact fn_ok T.f_Lack_shown sc_Lack_shown (by decide) (by decide) fun cdv A outer s H E hr => (ss_one (s_ret (pe_t (pa_1 (pe_k pe_str) (pa_1 (pe_fd (f := "fact") (cs := ["Have", "Lack"]) (fdTab_cons T.c_Have T.n_Have_fact (fdTab_cons T.c_Lack T.n_Lack_fact fdTab_nil)) (pe_v 0 (pv 0))) pa_0)))))
theorem sc_Some_shown : FnScope ["self"] ["self"] (defScope s_Some_shown) := ⟨rfl, rfl, rfl, by decide +kernel, rfl, by decide +kernel, by decide +kernel⟩
theorem ok_Some_shown (T : Txt K mg) : FnOk P w K mg base CX0 1 T.a_Some_shown T.d_Some_shownd ["self"] (spV ⟨K, mg⟩ [] F_Some_shown) := by
  have nd := sc_Some_shown.nd
  exact fn_ok T.f_Some_shown sc_Some_shown (by decide) (by decide) fun cdv A outer s H E hr => (ss_one (s_ret (pe_t (pa_1 (pe_k pe_str) (pa_1 (pe_fd (f := "number") (cs := ["Some"]) (fdTab_cons T.c_Some T.n_Some_number fdTab_nil) (pe_v 0 (pv 0))) (pa_1 (pe_fd (f := "facts") (cs := ["Some", "Lead"]) (fdTab_cons T.c_Some T.n_Some_facts (fdTab_cons T.c_Lead T.n_Lead_facts fdTab_nil)) (pe_v 0 (pv 0))) pa_0))))))
theorem sc_Lead_shown : FnScope ["self"] ["self"] (defScope s_Lead_shown) := ⟨rfl, rfl, rfl, by decide +kernel, rfl, by decide +kernel, by decide +kernel⟩
theorem ok_Lead_shown (T : Txt K mg) : FnOk P w K mg base CX0 1 T.a_Lead_shown T.d_Lead_shownd ["self"] (spV ⟨K, mg⟩ [] F_Lead_shown) := by
  have nd := sc_Lead_shown.nd
  exact fn_ok T.f_Lead_shown sc_Lead_shown (by decide) (by decide) fun cdv A outer s H E hr => (ss_one (s_ret (pe_t (pa_1 (pe_k pe_str) (pa_1 (pe_fd (f := "facts") (cs := ["Some", "Lead"]) (fdTab_cons T.c_Some T.n_Some_facts (fdTab_cons T.c_Lead T.n_Lead_facts fdTab_nil)) (pe_v 0 (pv 0))) (pa_1 (pe_fd (f := "at") (cs := ["Lead"]) (fdTab_cons T.c_Lead T.n_Lead_at fdTab_nil) (pe_v 0 (pv 0))) pa_0))))))
theorem sc__law_fields : FnScope ["_law_one", "_law_told"] ["_law_one", "_law_told"] (defScope s__law_fields) := ⟨rfl, rfl, rfl, by decide +kernel, rfl, by decide +kernel, by decide +kernel⟩
theorem ok__law_fields (T : Txt K mg) : FnOk P w K mg base CX0 1 T.a__law_fields T.d__law_fieldsd ["_law_one", "_law_told"] (spV ⟨K, mg⟩ [] F__law_fields) := by
  have nd := sc__law_fields.nd
  exact fn_ok T.d__law_fields.fn sc__law_fields (by decide) (by decide) fun cdv A outer s H E hr => (ss_cons (s_if (pt_c (o_eq rfl hr.units) (pe_i (o_ix rfl) (pe_v 1 (pv 1)) (pe_k pe_int) (fun _ _ => rfl)) (pe_k pe_str) (by rfl)) (ss_one (s_ret (pe_a (pe_c (o_eq rfl hr.units) (pe_fd (f := "number") (cs := ["Some"]) (fdTab_cons T.c_Some T.n_Some_number fdTab_nil) (pe_v 0 (pv 0))) (pe_i (o_ix rfl) (pe_v 1 (pv 1)) (pe_k pe_int) (fun _ _ => rfl)) (by rfl)) (pe_1 (pe_c (o_eq rfl hr.units) (pe_fd (f := "facts") (cs := ["Some", "Lead"]) (fdTab_cons T.c_Some T.n_Some_facts (fdTab_cons T.c_Lead T.n_Lead_facts fdTab_nil)) (pe_v 0 (pv 0))) (pe_i (o_ix rfl) (pe_v 1 (pv 1)) (pe_k pe_int) (fun _ _ => rfl)) (by rfl)))))) ss_nil)
    (ss_cons (s_if (pt_c (o_eq rfl hr.units) (pe_i (o_ix rfl) (pe_v 1 (pv 1)) (pe_k pe_int) (fun _ _ => rfl)) (pe_k pe_str) (by rfl)) (ss_one (s_ret (pe_a (pe_c (o_eq rfl hr.units) (pe_fd (f := "facts") (cs := ["Some", "Lead"]) (fdTab_cons T.c_Some T.n_Some_facts (fdTab_cons T.c_Lead T.n_Lead_facts fdTab_nil)) (pe_v 0 (pv 0))) (pe_i (o_ix rfl) (pe_v 1 (pv 1)) (pe_k pe_int) (fun _ _ => rfl)) (by rfl)) (pe_1 (pe_c (o_eq rfl hr.units) (pe_fd (f := "at") (cs := ["Lead"]) (fdTab_cons T.c_Lead T.n_Lead_at fdTab_nil) (pe_v 0 (pv 0))) (pe_i (o_ix rfl) (pe_v 1 (pv 1)) (pe_k pe_int) (fun _ _ => rfl)) (by rfl)))))) ss_nil)
    (ss_one (s_ret (pe_c (o_eq rfl hr.units) (pe_fd (f := "fact") (cs := ["Have", "Lack"]) (fdTab_cons T.c_Have T.n_Have_fact (fdTab_cons T.c_Lack T.n_Lack_fact fdTab_nil)) (pe_v 0 (pv 0))) (pe_i (o_ix rfl) (pe_v 1 (pv 1)) (pe_k pe_int) (fun _ _ => rfl)) (by rfl))))))
theorem sc__law_right : FnScope ["_law_told", "_law_have", "_law_may", "_law_one", "_law_due_here", "_law_found", "_law_leans"] ["_law_told", "_law_have", "_law_may"] (defScope s__law_right) := ⟨rfl, rfl, rfl, by decide +kernel, rfl, by decide +kernel, by decide +kernel⟩
theorem ok__law_right (T : Txt K mg) : FnOk P w K mg base CX0 4 T.a__law_right T.d__law_rightd ["_law_told", "_law_have", "_law_may"] (spV ⟨K, mg⟩ [] F__law_right) := by
  have nd := sc__law_right.nd
  exact fn_ok T.d__law_right.fn sc__law_right (by decide) (by decide) fun cdv A outer s H E hr => (ss_cons (s_set 3 nd rfl (Or.inl rfl) (pe_f (ok__law_made T) runF_noX (hr.mono (by decide)) (by rfl) T.d__law_made.g T.d__law_made.fn.kp T.d__law_made.b pass0 (pa_1 (pe_v 0 (pv 0)) pa_0)))
    (ss_cons (s_set 4 nd rfl (Or.inl rfl) (pe_f (ok__law_due T) runF_noX (hr.mono (by decide)) (by rfl) T.d__law_due.g T.d__law_due.fn.kp T.d__law_due.b pass0 (pa_1 (pe_v 0 (pv 0)) (pa_1 (pe_v 1 (pv 1)) (pa_1 (pe_v 2 (pv 2)) pa_0)))))
    (ss_cons (s_if ((pw_o (pt_n (pt_v (pe_isc rfl rfl T.c_Cond (isTab_cons T.c_Have T.q_Have_Cond (isTab_cons T.c_Lack T.q_Lack_Cond (isTab_cons T.c_Some T.q_Some_Cond (isTab_cons T.c_Lead T.q_Lead_Cond isTab_nil)))) (by rfl) T.n_isinstance bt_isinstance (by rfl) (pe_v 3 (pv 3))))) (pw_o (pt_c (o_ne rfl hr.units) (pe_mth0 (tbl := [("Have", F_Have_shown), ("Lack", F_Lack_shown), ("Some", F_Some_shown), ("Lead", F_Lead_shown)]) (cios := []) rfl (methTab_cons rfl T.c_Have T.h_Have_shown (ok_Have_shown T) (hr.mono (by decide)) T.b_Have_shown runF_noX (methTab_cons rfl T.c_Lack T.h_Lack_shown (ok_Lack_shown T) (hr.mono (by decide)) T.b_Lack_shown runF_noX (methTab_cons rfl T.c_Some T.h_Some_shown (ok_Some_shown T) (hr.mono (by decide)) T.b_Some_shown runF_noX (methTab_cons rfl T.c_Lead T.h_Lead_shown (ok_Lead_shown T) (hr.mono (by decide)) T.b_Lead_shown runF_noX methTab_nil)))) (pe_v 3 (pv 3))) (pe_v 0 (pv 0)) (by rfl)) (pw_1o (pt_n (pt_v (pe_f (ok__law_fields T) runF_noX (hr.mono (by decide)) (by rfl) T.d__law_fields.g T.d__law_fields.fn.kp T.d__law_fields.b pass0 (pa_1 (pe_v 3 (pv 3)) (pa_1 (pe_v 0 (pv 0)) pa_0)))))))).pt) (ss_one (s_ret (pe_k pe_bl))) ss_nil)
    (ss_cons (s_set 5 nd rfl (Or.inl rfl) (pe_l (pa_1 (pe_mth (tbl := [("Have", F_Have_carried), ("Lack", F_Lack_carried), ("Some", F_Some_carried), ("Lead", F_Lead_carried)]) (cios := []) rfl (methTab_cons rfl T.c_Have T.h_Have_carried (ok_Have_carried T) (hr.mono (by decide)) T.b_Have_carried runF_noX (methTab_cons rfl T.c_Lack T.h_Lack_carried (ok_Lack_carried T) (hr.mono (by decide)) T.b_Lack_carried runF_noX (methTab_cons rfl T.c_Some T.h_Some_carried (ok_Some_carried T) (hr.mono (by decide)) T.b_Some_carried runF_noX (methTab_cons rfl T.c_Lead T.h_Lead_carried (ok_Lead_carried T) (hr.mono (by decide)) T.b_Lead_carried runF_noX methTab_nil)))) (pe_v 3 (pv 3)) (pa_1 (pe_v 1 (pv 1)) (pa_1 (pe_v 2 (pv 2)) pa_0))) (pa_1 (pe_mth (tbl := [("Have", F_Have_blocked), ("Lack", F_Lack_blocked), ("Some", F_Some_blocked), ("Lead", F_Lead_blocked)]) (cios := []) rfl (methTab_cons rfl T.c_Have T.h_Have_blocked (ok_Have_blocked T) (hr.mono (by decide)) T.b_Have_blocked runF_noX (methTab_cons rfl T.c_Lack T.h_Lack_blocked (ok_Lack_blocked T) (hr.mono (by decide)) T.b_Lack_blocked runF_noX (methTab_cons rfl T.c_Some T.h_Some_blocked (ok_Some_blocked T) (hr.mono (by decide)) T.b_Some_blocked runF_noX (methTab_cons rfl T.c_Lead T.h_Lead_blocked (ok_Lead_blocked T) (hr.mono (by decide)) T.b_Lead_blocked runF_noX methTab_nil)))) (pe_v 3 (pv 3)) (pa_1 (pe_v 1 (pv 1)) (pa_1 (pe_v 2 (pv 2)) pa_0))) pa_0))))
    (ss_cons (s_if ((pw_o (pt_n (pt_v (pe_isi (by decide) rfl (by rfl) T.n_isinstance bt_isinstance (by rfl) T.n_bool bt_bool (pe_i (o_ix rfl) (pe_v 5 (pv 5)) (pe_k pe_int) (fun _ _ => rfl))))) (pw_o (pt_n (pt_v (pe_isi (by decide) rfl (by rfl) T.n_isinstance bt_isinstance (by rfl) T.n_bool bt_bool (pe_i (o_ix rfl) (pe_v 5 (pv 5)) (pe_k pe_int) (fun _ _ => rfl))))) (pw_1o (pt_c (o_ne rfl hr.units) (pe_v 5 (pv 5)) (pe_l (pa_1 (pe_i (o_ix rfl) (pe_v 4 (pv 4)) (pe_k pe_int) (fun _ _ => rfl)) (pa_1 (pe_i (o_ix rfl) (pe_v 4 (pv 4)) (pe_k pe_int) (fun _ _ => rfl)) pa_0))) (by rfl))))).pt) (ss_one (s_ret (pe_k pe_bl))) ss_nil)
    (ss_cons (s_set 6 nd rfl (Or.inl rfl) (pe_mth0 (tbl := [("Have", F_Have_leaning), ("Lack", F_Lack_leaning), ("Some", F_Some_leaning), ("Lead", F_Lead_leaning)]) (cios := []) rfl (methTab_cons rfl T.c_Have T.h_Have_leaning (ok_Have_leaning T) (hr.mono (by decide)) T.b_Have_leaning runF_noX (methTab_cons rfl T.c_Lack T.h_Lack_leaning (ok_Lack_leaning T) (hr.mono (by decide)) T.b_Lack_leaning runF_noX (methTab_cons rfl T.c_Some T.h_Some_leaning (ok_Some_leaning T) (hr.mono (by decide)) T.b_Some_leaning runF_noX (methTab_cons rfl T.c_Lead T.h_Lead_leaning (ok_Lead_leaning T) (hr.mono (by decide)) T.b_Lead_leaning runF_noX methTab_nil)))) (pe_v 3 (pv 3))))
    (ss_cons (s_if ((pw_o (pt_n (pt_v (pe_pk (pe_isi (by decide) rfl (by rfl) T.n_isinstance bt_isinstance (by rfl) T.n_list bt_list (pe_v 6 (pv 6)))))) (pw_1o (pt_pk (pt_c (o_ne rfl hr.units) (pe_v 6 (pv 6)) (pe_i (o_ix rfl) (pe_v 4 (pv 4)) (pe_k pe_int) (fun _ _ => rfl)) (by rfl))))).pt) (ss_one (s_ret (pe_k pe_bl))) ss_nil)
    (ss_cons (s_drop (pe_clear 6 (pv 6)))
    (ss_one (s_ret (pe_a (pe_c (o_eq rfl hr.units) (pe_mth0 (tbl := [("Have", F_Have_leaning), ("Lack", F_Lack_leaning), ("Some", F_Some_leaning), ("Lead", F_Lead_leaning)]) (cios := []) rfl (methTab_cons rfl T.c_Have T.h_Have_leaning (ok_Have_leaning T) (hr.mono (by decide)) T.b_Have_leaning runF_noX (methTab_cons rfl T.c_Lack T.h_Lack_leaning (ok_Lack_leaning T) (hr.mono (by decide)) T.b_Lack_leaning runF_noX (methTab_cons rfl T.c_Some T.h_Some_leaning (ok_Some_leaning T) (hr.mono (by decide)) T.b_Some_leaning runF_noX (methTab_cons rfl T.c_Lead T.h_Lead_leaning (ok_Lead_leaning T) (hr.mono (by decide)) T.b_Lead_leaning runF_noX methTab_nil)))) (pe_v 3 (pv 3))) (pe_i (o_ix rfl) (pe_v 4 (pv 4)) (pe_k pe_int) (fun _ _ => rfl)) (by rfl)) (pe_1 (pe_c (o_eq rfl hr.units) (pe_mth0 (tbl := [("Have", F_Have_shown), ("Lack", F_Lack_shown), ("Some", F_Some_shown), ("Lead", F_Lead_shown)]) (cios := []) rfl (methTab_cons rfl T.c_Have T.h_Have_shown (ok_Have_shown T) (hr.mono (by decide)) T.b_Have_shown runF_noX (methTab_cons rfl T.c_Lack T.h_Lack_shown (ok_Lack_shown T) (hr.mono (by decide)) T.b_Lack_shown runF_noX (methTab_cons rfl T.c_Some T.h_Some_shown (ok_Some_shown T) (hr.mono (by decide)) T.b_Some_shown runF_noX (methTab_cons rfl T.c_Lead T.h_Lead_shown (ok_Lead_shown T) (hr.mono (by decide)) T.b_Lead_shown runF_noX methTab_nil)))) (pe_v 3 (pv 3))) (pe_v 0 (pv 0)) (by rfl))))))))))))))
theorem sc_law : FnScope ["_law_script", "_law_k", "_law_box_here", "_law_told", "_law_have"] ["_law_script"] (defScope s_law) := ⟨rfl, rfl, rfl, by decide +kernel, rfl, by decide +kernel, by decide +kernel⟩
theorem ok_law (T : Txt K mg) : FnOk P w K mg base CX0 5 T.a_law T.d_lawd ["_law_script"] (spV ⟨K, mg⟩ [] F_law) := by
  have nd := sc_law.nd
  exact fn_ok T.d_law.fn sc_law (by decide) (by decide) fun cdv A outer s H E hr => (ss_cons (s_for PassesOwn.never rfl (pi_r2 (by rfl) T.n_range (pa_1 (pe_k pe_int) (pa_1 (pe_b (b_max2 rfl) (by rfl) T.n_max bt_max (pa_1 (pe_k pe_int) (pa_1 (pe_b (b_min2 rfl) (by rfl) T.n_min bt_min (pa_1 (pe_b (b_len rfl) (by rfl) T.n_len bt_len (pa_1 (pe_v 0 (pv 0)) pa_0)) (pa_1 (pe_k pe_int) pa_0))) pa_0))) pa_0))) (g_nm 1 (pg_name (i := 1) nd rfl (Or.inl rfl))) (ss_cons (s_set 2 nd rfl (Or.inl rfl) (pe_f (ok__law_box T) runF_noX (hr.mono (by decide)) (by rfl) T.d__law_box.g T.d__law_box.fn.kp T.d__law_box.b pass0 (pa_1 (pe_v 0 (pv 0)) (pa_1 (pe_v 1 (pv 1)) pa_0))))
    (ss_cons (s_set 3 nd rfl (Or.inl rfl) (pe_f (ok__law_drawn T) runF_noX (hr.mono (by decide)) (by rfl) T.d__law_drawn.g T.d__law_drawn.fn.kp T.d__law_drawn.b pass0 (pa_s 2 (pv 2) pa_0)))
    (ss_cons (s_set 4 nd rfl (Or.inl rfl) (pe_f (ok__law_set T) runF_noX (hr.mono (by decide)) (by rfl) T.d__law_set.g T.d__law_set.fn.kp T.d__law_set.b pass0 (pa_s 2 (pv 2) (pa_1 (pe_v 3 (pv 3)) pa_0))))
    (ss_one (s_if ((pw_o (pt_n (pt_v (pe_f (ok__law_right T) runF_noX (hr.mono (by decide)) (by rfl) T.d__law_right.g T.d__law_right.fn.kp T.d__law_right.b pass0 (pa_1 (pe_v 3 (pv 3)) (pa_1 (pe_v 4 (pv 4)) (pa_1 (pe_2 o_or (pe_v 4 (pv 4)) (pe_f (ok__law_set T) runF_noX (hr.mono (by decide)) (by rfl) T.d__law_set.g T.d__law_set.fn.kp T.d__law_set.b pass0 (pa_s 2 (pv 2) (pa_1 (pe_v 3 (pv 3)) pa_0)))) pa_0)))))) (pw_1o (pt_n (pt_v (pe_f (ok__law_right T) runF_noX (hr.mono (by decide)) (by rfl) T.d__law_right.g T.d__law_right.fn.kp T.d__law_right.b pass0 (pa_1 (pe_v 3 (pv 3)) (pa_1 (pe_v 4 (pv 4)) (pa_1 (pe_f (ok__law_set T) runF_noX (hr.mono (by decide)) (by rfl) T.d__law_set.g T.d__law_set.fn.kp T.d__law_set.b pass0 (pa_s 2 (pv 2) (pa_1 (pe_v 3 (pv 3)) pa_0))) pa_0)))))))).pt) (ss_one (s_ret (pe_k pe_bl))) ss_nil))))))
    (ss_one (s_ret (pe_k pe_bl))))
end
end K11
namespace K11
open PySem PySem.Spec PyProof.Rows L2 VL
def cell (ns : List Int) (k : Nat) : Int := if h : k < ns.length then ns[k] else 7919 * k + 13
theorem cell_eq (ns : List Int) (k : Nat) : F__law_cell [.scr ns, .int k] = some (.ret (.int (cell ns k)), []) := by
  have h1 : mulC 7919 (k : Int) = true := mulC_l (by decide) (by decide)
  by_cases h : k < ns.length
  · have e := atI_nat' (List.getElem?_eq_getElem h)
    simp [F__law_cell, m__law_cell, cell, h, e]
  · simp [F__law_cell, m__law_cell, cell, h, gMul_int h1]
theorem take_eq (n m : Int) (h1 : 0 < m) (h2 : m < 2^200) : F__law_take [.olst [.int n], .int m] = some (.ret (.int (n % m)), [.olst [.int (n / m)]]) := by
  have e : atI [D.int n] 0 = some (.int n) := rfl
  simp [F__law_take, m__law_take, bDivmod_int (divC_ok h1 h2), e]
theorem mix_eq (c : Int) (k : Int) : ∃ m, F__law_mix [.int c, .int k] = some (.ret (.int m), []) := by
  have m1 : mulC (c % 2147483647) 48271 = true := mulC_r (by decide) (by decide)
  have m2 : mulC 7919 k = true := mulC_l (by decide) (by decide)
  have p1 : (0 : Int) < 2147483647 := by decide
  have p2 : (0 : Int) < 2147483629 := by decide
  let a := (c % 2147483647 * 48271 + 7919 * k + 1) % 2147483647
  have ha : 0 ≤ a ∧ a < 2147483647 := ⟨Int.emod_nonneg _ (by decide), Int.emod_lt_of_pos _ (by decide)⟩
  have m3 : mulC a a = true := mulC_l (by omega) (by omega)
  let b := a * a % 2147483629
  have hb : 0 ≤ b ∧ b < 2147483629 := ⟨Int.emod_nonneg _ (by decide), Int.emod_lt_of_pos _ (by decide)⟩
  have m4 : mulC b (b + 13) = true := mulC_l (by omega) (by omega)
  refine ⟨b * (b + 13) % 2147483647, ?_⟩
  simp [F__law_mix, m__law_mix, gMul_int m1, gMul_int m2, gMod_int p1, gMod_int p2, show gMul (.int ((c % 2147483647 * 48271 + 7919 * k + 1) % 2147483647)) (.int ((c % 2147483647 * 48271 + 7919 * k + 1) % 2147483647)) = _ from gMul_int m3,
    show gMul (.int (((c % 2147483647 * 48271 + 7919 * k + 1) % 2147483647) * ((c % 2147483647 * 48271 + 7919 * k + 1) % 2147483647) % 2147483629)) (.int (((c % 2147483647 * 48271 + 7919 * k + 1) % 2147483647) * ((c % 2147483647 * 48271 + 7919 * k + 1) % 2147483647) % 2147483629 + 13)) = _ from gMul_int m4]
  rfl
theorem box_eq (ns : List Int) (k : Nat) : ∃ n, F__law_box [.scr ns, .int k] = some (.ret (.olst [.int n]), []) := by
  have p2 : (0 : Int) < 2 := by decide
  have c0 := cell_eq ns 0
  simp only [Int.natCast_zero] at c0
  by_cases h : cell ns 0 % 2 = 0
  · exact ⟨cell ns k, by simp [F__law_box, m__law_box, cell_eq ns k, c0, gMod_int p2, h, gLst_ok]⟩
  · have loop : ∀ env : VL.Env, (∃ n z, env = [some (.scr ns), some (.int k), some (.int (cell ns k)), some (.int n), z]) → ∃ e n z, forL (gNm 4) b__law_box_1 (rangeD 0 6) env = .ok .nx e ∧ e = [some (.scr ns), some (.int k), some (.int (cell ns k)), some (.int n), z] := by
      intro env h0
      refine forL_ind (fun _ env => ∃ n z, env = [some (.scr ns), some (.int k), some (.int (cell ns k)), some (.int n), z]) (fun r => ∃ e n z, r = .ok .nx e ∧ e = [some (.scr ns), some (.int k), some (.int (cell ns k)), some (.int n), z]) (fun i d env hd P => ?_) (fun env ⟨n, z, P⟩ => ⟨env, n, z, rfl, P⟩) h0
      obtain ⟨n, z, rfl⟩ := P
      obtain ⟨rfl, hi⟩ := rangeD_get hd
      obtain ⟨m, hm⟩ := mix_eq (cell ns k) (0 + i)
      have m1 : mulC n 2147483647 = true := mulC_r (by decide) (by decide)
      refine ⟨_, rfl, ?_⟩
      simp [b__law_box_1, gMul_int m1] at hm ⊢
      simp [hm]
    obtain ⟨e, n, z, h1, h2⟩ := loop [some (.scr ns), some (.int k), some (.int (cell ns k)), some (.int 0), none] ⟨0, none, rfl⟩
    refine ⟨n, ?_⟩
    simp [F__law_box, m__law_box, cell_eq ns k, c0, gMod_int p2, h, gLst_ok, rng1_ok, h1, h2]
/-! ### conds -/
def bv (s f : Int) : Int := s / 2 ^ f.toNat % 2
theorem bv01 (s f : Int) : bv s f = 0 ∨ bv s f = 1 := by unfold bv; omega
theorem isin_eq (f s : Int) (h : 0 ≤ f) : F_is_in [.int f, .int s] = some (.ret (.bl (decide (bv s f = 1))), []) := by
  by_cases hb : bv s f = 1 <;> simp [bv] at hb <;> simp [F_is_in, m_is_in, gShr_int h, bitAnd_m1, bv, hb]
def hv (f : Int) : D := .ins "Have" ["fact"] [.int f]
def lk (f : Int) : D := .ins "Lack" ["fact"] [.int f]
def sm (n : Int) (fs : List Int) : D := .ins "Some" ["number", "facts"] [.int n, .tup (fs.map .int)]
def ld (fs : List Int) (k : Nat) : D := .ins "Lead" ["facts", "at"] [.tup (fs.map .int), .int k]
theorem have_init (f : Int) : F_Have___init__ [.oins "Have" [] [], .int f] = some (.ret .non, [.oins "Have" ["fact"] [.int f]]) := by
  simp [F_Have___init__, m_Have___init__, putN, putV]
theorem lack_init (f : Int) : F_Lack___init__ [.oins "Lack" [] [], .int f] = some (.ret .non, [.oins "Lack" ["fact"] [.int f]]) := by
  simp [F_Lack___init__, m_Lack___init__, putN, putV]
theorem some_init (n : Int) (fs : List Int) : F_Some___init__ [.oins "Some" [] [], .int n, .tup (fs.map .int)] = some (.ret .non, [.oins "Some" ["number", "facts"] [.int n, .tup (fs.map .int)]]) := by
  simp [F_Some___init__, m_Some___init__, putN, putV]
theorem lead_init (fs : List Int) (k : Nat) : F_Lead___init__ [.oins "Lead" [] [], .tup (fs.map .int), .int k] = some (.ret .non, [.oins "Lead" ["facts", "at"] [.tup (fs.map .int), .int k]]) := by
  simp [F_Lead___init__, m_Lead___init__, putN, putV]
end K11
namespace K11
open PySem PySem.Spec PyProof.Rows L2 VL
def bits (s : Int) (fs : List Int) : List Int := fs.filter fun f => decide (bv s f = 1)
def pD (s : Int) : D → Bool := fun d => match d with
  | .int f => decide (bv s f = 1)
  | _ => false
theorem filter_pD (s : Int) (fs : List Int) : (fs.map D.int).filter (pD s) = (bits s fs).map D.int := by
  rw [List.filter_map]; rfl
theorem some_comp_c (S : D) (fs : List Int) (hf : ∀ f ∈ fs, 0 ≤ f) (hl : fs.length ≤ 1000) (h m : Int) : lcL (gNm 3) (tst (eCall F_is_in [] (aCons (eVar 3) (aCons (eVar 1) aNil)))) b_Some_carried_1 [3] (fs.map D.int) [] [some S, some (.int h), some (.int m), none] = .ok (.olst ((bits h fs).map .int)) [some S, some (.int h), some (.int m), none] := by
  have := lcL_keep (g := gNm 3) (ft := (tst (eCall F_is_in [] (aCons (eVar 3) (aCons (eVar 1) aNil))))) (fe := b_Some_carried_1) (vs := [3]) (env := [some S, some (.int h), some (.int m), none]) (pD h) id (fs.map D.int) (fun d hd => ?_) (by simp; omega)
  · rw [this, filter_pD]; simp
  · obtain ⟨f, hf1, rfl⟩ := List.mem_map.mp hd
    refine ⟨_, rfl, rfl, ?_, fun _ => ?_⟩
    · simp [isin_eq f h (hf f hf1), pD]
    · simp [b_Some_carried_1]
theorem some_comp_b (S : D) (fs : List Int) (hf : ∀ f ∈ fs, 0 ≤ f) (hl : fs.length ≤ 1000) (h m : Int) : lcL (gNm 3) (tst (eCall F_is_in [] (aCons (eVar 3) (aCons (eVar 2) aNil)))) b_Some_blocked_1 [3] (fs.map D.int) [] [some S, some (.int h), some (.int m), none] = .ok (.olst ((bits m fs).map .int)) [some S, some (.int h), some (.int m), none] := by
  have := lcL_keep (g := gNm 3) (ft := (tst (eCall F_is_in [] (aCons (eVar 3) (aCons (eVar 2) aNil))))) (fe := b_Some_blocked_1) (vs := [3]) (env := [some S, some (.int h), some (.int m), none]) (pD m) id (fs.map D.int) (fun d hd => ?_) (by simp; omega)
  · rw [this, filter_pD]; simp
  · obtain ⟨f, hf1, rfl⟩ := List.mem_map.mp hd
    refine ⟨_, rfl, rfl, ?_, fun _ => ?_⟩
    · simp [isin_eq f m (hf f hf1), pD]
    · simp [b_Some_blocked_1]
theorem lead_comp_c (S : D) (z : Option D) (fs : List Int) (hf : ∀ f ∈ fs, 0 ≤ f) (hl : fs.length ≤ 1000) (h m : Int) : lcL (gNm 4) (tst (eCall F_is_in [] (aCons (eVar 4) (aCons (eVar 2) aNil)))) b_Lead_carried_1 [4] (fs.map D.int) [] [some S, some (.int h), some (.int m), z, none] = .ok (.olst ((bits m fs).map .int)) [some S, some (.int h), some (.int m), z, none] := by
  have := lcL_keep (g := gNm 4) (ft := (tst (eCall F_is_in [] (aCons (eVar 4) (aCons (eVar 2) aNil))))) (fe := b_Lead_carried_1) (vs := [4]) (env := [some S, some (.int h), some (.int m), z, none]) (pD m) id (fs.map D.int) (fun d hd => ?_) (by simp; omega)
  · rw [this, filter_pD]; simp
  · obtain ⟨f, hf1, rfl⟩ := List.mem_map.mp hd
    refine ⟨_, rfl, rfl, ?_, fun _ => ?_⟩
    · simp [isin_eq f m (hf f hf1), pD]
    · simp [b_Lead_carried_1]
theorem lead_comp_b (S : D) (z : Option D) (fs : List Int) (hf : ∀ f ∈ fs, 0 ≤ f) (hl : fs.length ≤ 1000) (h m : Int) : lcL (gNm 4) (tst (eCall F_is_in [] (aCons (eVar 4) (aCons (eVar 1) aNil)))) b_Lead_blocked_1 [4] (fs.map D.int) [] [some S, some (.int h), some (.int m), z, none] = .ok (.olst ((bits h fs).map .int)) [some S, some (.int h), some (.int m), z, none] := by
  have := lcL_keep (g := gNm 4) (ft := (tst (eCall F_is_in [] (aCons (eVar 4) (aCons (eVar 1) aNil))))) (fe := b_Lead_blocked_1) (vs := [4]) (env := [some S, some (.int h), some (.int m), z, none]) (pD h) id (fs.map D.int) (fun d hd => ?_) (by simp; omega)
  · rw [this, filter_pD]; simp
  · obtain ⟨f, hf1, rfl⟩ := List.mem_map.mp hd
    refine ⟨_, rfl, rfl, ?_, fun _ => ?_⟩
    · simp [isin_eq f h (hf f hf1), pD]
    · simp [b_Lead_blocked_1]
/-! ### carried, blocked, leaning, shown -/
theorem have_c (f h m : Int) (h0 : 0 ≤ f) : F_Have_carried [hv f, .int h, .int m] = some (.ret (.bl (decide (bv h f = 1))), []) := by
  simp [F_Have_carried, m_Have_carried, hv, isin_eq f h h0]
theorem have_b (f h m : Int) (h0 : 0 ≤ f) : F_Have_blocked [hv f, .int h, .int m] = some (.ret (.bl (!decide (bv m f = 1))), []) := by
  simp [F_Have_blocked, m_Have_blocked, hv, isin_eq f m h0]
theorem lack_c (f h m : Int) (h0 : 0 ≤ f) : F_Lack_carried [lk f, .int h, .int m] = some (.ret (.bl (!decide (bv m f = 1))), []) := by
  simp [F_Lack_carried, m_Lack_carried, lk, isin_eq f m h0]
theorem lack_b (f h m : Int) (h0 : 0 ≤ f) : F_Lack_blocked [lk f, .int h, .int m] = some (.ret (.bl (decide (bv h f = 1))), []) := by
  simp [F_Lack_blocked, m_Lack_blocked, lk, isin_eq f h h0]
theorem some_c (n : Int) (fs : List Int) (h m : Int) (hf : ∀ f ∈ fs, 0 ≤ f) (hl : fs.length ≤ 1000) : F_Some_carried [sm n fs, .int h, .int m] = some (.ret (.bl (decide (n ≤ (bits h fs).length))), []) := by
  have := some_comp_c (sm n fs) fs hf hl h m
  simp [sm] at this
  simp [F_Some_carried, m_Some_carried, sm, this]
theorem some_b (n : Int) (fs : List Int) (h m : Int) (hf : ∀ f ∈ fs, 0 ≤ f) (hl : fs.length ≤ 1000) : F_Some_blocked [sm n fs, .int h, .int m] = some (.ret (.bl (decide (((bits m fs).length : Int) < n))), []) := by
  have := some_comp_b (sm n fs) fs hf hl h m
  simp [sm] at this
  simp [F_Some_blocked, m_Some_blocked, sm, this]
theorem fs_at (fs : List Int) (k : Nat) (hk : k < fs.length) : atI (fs.map D.int) (k : Int) = some (.int fs[k]) := atI_nat' (by rw [List.getElem?_map, List.getElem?_eq_getElem hk]; rfl)
theorem lead_c (fs : List Int) (k : Nat) (hk : k < fs.length) (h m : Int) (hf : ∀ f ∈ fs, 0 ≤ f) (hl : fs.length ≤ 1000) : F_Lead_carried [ld fs k, .int h, .int m] = some (.ret (.bl (decide (bv h fs[k] = 1) && decide (bits m (fs.take k) = []))), []) := by
  have h1 := lead_comp_c (ld fs k) none (fs.take k) (fun f q => hf f (List.mem_of_mem_take q)) (by simp; omega) h m
  simp [ld] at h1
  have h2 := gSl_tup_hi (ds := fs.map D.int) (k := k) (by simpa using hk)
  have h3 := isin_eq fs[k] h (hf _ (List.getElem_mem hk))
  have h4 := gEq_ints (a := bits m (fs.take k)) (b := [])
  simp at h4
  by_cases hb : bv h fs[k] = 1 <;> simp [hb] at h3 <;> simp [F_Lead_carried, m_Lead_carried, ld, h2, h1, h3, fs_at fs k hk, gLst_ok, h4, hb]
theorem lead_b (fs : List Int) (k : Nat) (hk : k < fs.length) (h m : Int) (hf : ∀ f ∈ fs, 0 ≤ f) (hl : fs.length ≤ 1000) : F_Lead_blocked [ld fs k, .int h, .int m] = some (.ret (.bl (!decide (bv m fs[k] = 1) || !decide (bits h (fs.take k) = []))), []) := by
  have h1 := lead_comp_b (ld fs k) none (fs.take k) (fun f q => hf f (List.mem_of_mem_take q)) (by simp; omega) h m
  simp [ld] at h1
  have h2 := gSl_tup_hi (ds := fs.map D.int) (k := k) (by simpa using hk)
  have h3 := isin_eq fs[k] m (hf _ (List.getElem_mem hk))
  have h4 := gNe_ints (a := bits h (fs.take k)) (b := [])
  simp at h4
  by_cases hb : bv m fs[k] = 1 <;> simp [hb] at h3 <;> simp [F_Lead_blocked, m_Lead_blocked, ld, h2, h1, h3, fs_at fs k hk, gLst_ok, h4, hb]
/-- what a cond leans on -/
def leanF (b : Bool) (f : Int) : D := .tup [.int f, .bl b]
theorem frz_leanF (b : Bool) (f : Int) : frz (leanF b f) = leanF b f := by simp [leanF]
@[simp] theorem frzs_lean (b : Bool) : ∀ fs : List Int, frzs (fs.map (leanF b)) = fs.map (leanF b)
  | [] => frzs_nil
  | f :: r => by rw [List.map_cons, frzs_cons, frz_leanF, frzs_lean b r]
theorem have_l (f : Int) : F_Have_leaning [hv f] = some (.ret (.olst [leanF false f]), []) := by
  simp [F_Have_leaning, m_Have_leaning, hv, gTup_ok, gLst_ok, leanF]
theorem lack_l (f : Int) : F_Lack_leaning [lk f] = some (.ret (.olst [leanF true f]), []) := by
  simp [F_Lack_leaning, m_Lack_leaning, lk, gTup_ok, gLst_ok, leanF]
def leanD (b : Bool) : D → D := fun d => match d with
  | .int f => leanF b f
  | d => d
theorem map_leanD (b : Bool) (fs : List Int) : ((fs.map D.int).filter fun _ => true).map (leanD b) = fs.map (leanF b) := by
  rw [List.filter_eq_self.mpr (fun _ _ => rfl), List.map_map]; rfl
theorem some_comp_l (S : D) (fs : List Int) (hl : fs.length ≤ 1000) : lcL (gNm 1) tYesM b_Some_leaning_1 [1] (fs.map D.int) [] [some S, none] = .ok (.olst (fs.map (leanF false))) [some S, none] := by
  have := lcL_keep (g := gNm 1) (ft := tYesM) (fe := b_Some_leaning_1) (vs := [1]) (env := [some S, none]) (fun _ => true) (leanD false) (fs.map D.int) (fun d hd => ?_) (by simp; omega)
  · rw [this, map_leanD]; simp
  · obtain ⟨f, hf1, rfl⟩ := List.mem_map.mp hd
    refine ⟨_, rfl, rfl, rfl, fun _ => ?_⟩
    simp [b_Some_leaning_1, gTup_ok, leanD, leanF]
theorem lead_comp_l (S : D) (fs : List Int) (hl : fs.length ≤ 1000) : lcL (gNm 1) tYesM b_Lead_leaning_1 [1] (fs.map D.int) [] [some S, none] = .ok (.olst (fs.map (leanF true))) [some S, none] := by
  have := lcL_keep (g := gNm 1) (ft := tYesM) (fe := b_Lead_leaning_1) (vs := [1]) (env := [some S, none]) (fun _ => true) (leanD true) (fs.map D.int) (fun d hd => ?_) (by simp; omega)
  · rw [this, map_leanD]; simp
  · obtain ⟨f, hf1, rfl⟩ := List.mem_map.mp hd
    refine ⟨_, rfl, rfl, rfl, fun _ => ?_⟩
    simp [b_Lead_leaning_1, gTup_ok, leanD, leanF]
theorem some_l (n : Int) (fs : List Int) (hl : fs.length ≤ 1000) : F_Some_leaning [sm n fs] = some (.ret (.olst (fs.map (leanF false))), []) := by
  have := some_comp_l (sm n fs) fs hl
  simp [sm] at this
  simp [F_Some_leaning, m_Some_leaning, sm, this]
def leadLean (fs : List Int) (k : Nat) : List D := (fs.take k).map (leanF true) ++ [leanF false (fs.getD k 0)]
theorem frzs_app (a b : List D) : frzs (a ++ b) = frzs a ++ frzs b := by simp [frzs_map]
@[simp] theorem frzs_leadLean (fs : List Int) (k : Nat) : frzs (leadLean fs k) = leadLean fs k := by
  unfold leadLean
  rw [frzs_app, frzs_lean]
  simp [frz_leanF]
theorem lead_l (fs : List Int) (k : Nat) (hk : k < fs.length) (hl : fs.length ≤ 1000) : F_Lead_leaning [ld fs k] = some (.ret (.olst (leadLean fs k)), []) := by
  have h1 := lead_comp_l (ld fs k) (fs.take k) (by simp; omega)
  simp [ld, -List.map_take] at h1
  have h2 := gSl_tup_hi (ds := fs.map D.int) (k := k) (by simpa using hk)
  rw [← List.map_take] at h2
  have hadd : gAdd (.lst ((fs.take k).map (leanF true))) (.lst [leanF false fs[k]]) = some (.olst (leadLean fs k)) := by
    rw [gAdd_lst (by simp; omega)]
    unfold leadLean
    rw [List.getD_eq_getElem?_getD, List.getElem?_eq_getElem hk]; rfl
  simp [leanF, -List.map_take] at hadd
  simp [F_Lead_leaning, m_Lead_leaning, ld, h2, h1, fs_at fs k hk, gTup_ok, gLst_ok, hadd, leanF, -List.map_take]
theorem have_s (f : Int) : F_Have_shown [hv f] = some (.ret (.tup [.str "have", .int f]), []) := by simp [F_Have_shown, m_Have_shown, hv, gTup_ok]
theorem lack_s (f : Int) : F_Lack_shown [lk f] = some (.ret (.tup [.str "lack", .int f]), []) := by simp [F_Lack_shown, m_Lack_shown, lk, gTup_ok]
theorem some_s (n : Int) (fs : List Int) : F_Some_shown [sm n fs] = some (.ret (.tup [.str "some", .int n, .tup (fs.map .int)]), []) := by simp [F_Some_shown, m_Some_shown, sm, gTup_ok]
theorem lead_s (fs : List Int) (k : Nat) : F_Lead_shown [ld fs k] = some (.ret (.tup [.str "lead", .tup (fs.map .int), .int k]), []) := by simp [F_Lead_shown, m_Lead_shown, ld, gTup_ok]
end K11
namespace K11
open PySem PySem.Spec PyProof.Rows L2 VL
def hvT (f : Int) : D := .tup [.str "have", .int f]
def lkT (f : Int) : D := .tup [.str "lack", .int f]
def smT (n : Int) (fs : List Int) : D := .tup [.str "some", .int n, .tup (fs.map .int)]
def ldT (fs : List Int) (k : Nat) : D := .tup [.str "lead", .tup (fs.map .int), .int k]
theorem sH : PyData.strOk "have" = true := by decide +kernel
theorem sL : PyData.strOk "lack" = true := by decide +kernel
theorem sS : PyData.strOk "some" = true := by decide +kernel
theorem sD : PyData.strOk "lead" = true := by decide +kernel
theorem at0 {a : D} {r : List D} : atI (a :: r) 0 = some a := atI_nat' (j := 0) rfl
theorem at1 {a b : D} {r : List D} : atI (a :: b :: r) 1 = some b := atI_nat' (j := 1) rfl
theorem at2 {a b c : D} {r : List D} : atI (a :: b :: c :: r) 2 = some c := atI_nat' (j := 2) rfl
theorem facts_h (f : Int) : F__law_facts [hvT f] = some (.ret (.olst [.int f]), []) := by
  simp [F__law_facts, m__law_facts, hvT, at0, at1, gEq_str, sH, sL, sS, sD, gLst_ok]
theorem facts_l (f : Int) : F__law_facts [lkT f] = some (.ret (.olst [.int f]), []) := by
  simp [F__law_facts, m__law_facts, lkT, at0, at1, gEq_str, sH, sL, sS, sD, gLst_ok]
theorem facts_s (n : Int) (fs : List Int) : F__law_facts [smT n fs] = some (.ret (.olst (fs.map .int)), []) := by
  simp [F__law_facts, m__law_facts, smT, at0, at2, gEq_str, sH, sL, sS, sD]
theorem facts_d (fs : List Int) (k : Nat) : F__law_facts [ldT fs k] = some (.ret (.olst (fs.map .int)), []) := by
  simp [F__law_facts, m__law_facts, ldT, at0, at1, gEq_str, sH, sL, sS, sD]
theorem made_h (f : Int) : F__law_made [hvT f] = some (.ret (.oins "Have" ["fact"] [.int f]), []) := by
  simp [F__law_made, m__law_made, hvT, at0, at1, gEq_str, sH, sL, sS, sD, have_init]
theorem made_l (f : Int) : F__law_made [lkT f] = some (.ret (.oins "Lack" ["fact"] [.int f]), []) := by
  simp [F__law_made, m__law_made, lkT, at0, at1, gEq_str, sH, sL, sS, sD, lack_init]
theorem made_s (n : Int) (fs : List Int) : F__law_made [smT n fs] = some (.ret (.oins "Some" ["number", "facts"] [.int n, .tup (fs.map .int)]), []) := by
  simp [F__law_made, m__law_made, smT, at0, at1, at2, gEq_str, sH, sL, sS, sD, some_init]
theorem made_d (fs : List Int) (k : Nat) : F__law_made [ldT fs k] = some (.ret (.oins "Lead" ["facts", "at"] [.tup (fs.map .int), .int k]), []) := by
  simp [F__law_made, m__law_made, ldT, at0, at1, at2, gEq_str, sH, sL, sS, sD, lead_init]
/-! ### what is due -/
def bvs (s : Int) (fs : List Int) : List Int := fs.map (bv s)
def bvD (s : Int) : D → D := fun d => match d with
  | .int f => .int (bv s f)
  | d => d
theorem map_bvD (s : Int) (fs : List Int) : ((fs.map D.int).filter fun _ => true).map (bvD s) = (bvs s fs).map D.int := by
  rw [List.filter_eq_self.mpr (fun _ _ => rfl), bvs, List.map_map, List.map_map]; rfl
theorem due_1 (T : D) (h m : Int) (a b c d e f : Option D) (fs : List Int) (hf : ∀ f ∈ fs, 0 ≤ f) (hl : fs.length ≤ 1000) : lcL (gNm 9) tYesM b__law_due_1 [9] (fs.map D.int) [] [some T, some (.int h), some (.int m), a, b, c, d, e, f, none] = .ok (.olst ((bvs h fs).map .int)) [some T, some (.int h), some (.int m), a, b, c, d, e, f, none] := by
  have := lcL_keep (g := gNm 9) (ft := tYesM) (fe := b__law_due_1) (vs := [9]) (env := [some T, some (.int h), some (.int m), a, b, c, d, e, f, none]) (fun _ => true) (bvD h) (fs.map D.int) (fun d hd => ?_) (by simp; omega)
  · rw [this, map_bvD]; simp
  · obtain ⟨f, hf1, rfl⟩ := List.mem_map.mp hd
    refine ⟨_, rfl, rfl, rfl, fun _ => ?_⟩
    simp [b__law_due_1, gShr_int (hf f hf1), bitAnd_m1, bvD, bv]
theorem due_2 (T : D) (h m : Int) (a b c d e f : Option D) (fs : List Int) (hf : ∀ f ∈ fs, 0 ≤ f) (hl : fs.length ≤ 1000) : lcL (gNm 9) tYesM b__law_due_2 [9] (fs.map D.int) [] [some T, some (.int h), some (.int m), a, b, c, d, e, f, none] = .ok (.olst ((bvs m fs).map .int)) [some T, some (.int h), some (.int m), a, b, c, d, e, f, none] := by
  have := lcL_keep (g := gNm 9) (ft := tYesM) (fe := b__law_due_2) (vs := [9]) (env := [some T, some (.int h), some (.int m), a, b, c, d, e, f, none]) (fun _ => true) (bvD m) (fs.map D.int) (fun d hd => ?_) (by simp; omega)
  · rw [this, map_bvD]; simp
  · obtain ⟨f, hf1, rfl⟩ := List.mem_map.mp hd
    refine ⟨_, rfl, rfl, rfl, fun _ => ?_⟩
    simp [b__law_due_2, gShr_int (hf f hf1), bitAnd_m1, bvD, bv]
theorem due_3 (T : D) (h m : Int) (a b c d e f : Option D) (fs : List Int) (hl : fs.length ≤ 1000) : lcL (gNm 9) tYesM b__law_due_3 [9] (fs.map D.int) [] [some T, some (.int h), some (.int m), a, b, c, d, e, f, none] = .ok (.olst (fs.map (leanF false))) [some T, some (.int h), some (.int m), a, b, c, d, e, f, none] := by
  have := lcL_keep (g := gNm 9) (ft := tYesM) (fe := b__law_due_3) (vs := [9]) (env := [some T, some (.int h), some (.int m), a, b, c, d, e, f, none]) (fun _ => true) (leanD false) (fs.map D.int) (fun d hd => ?_) (by simp; omega)
  · rw [this, map_leanD]; simp
  · obtain ⟨f, hf1, rfl⟩ := List.mem_map.mp hd
    refine ⟨_, rfl, rfl, rfl, fun _ => ?_⟩
    simp [b__law_due_3, gTup_ok, leanD, leanF]
theorem due_4 (T : D) (h m : Int) (a b c d e f : Option D) (fs : List Int) (hl : fs.length ≤ 1000) : lcL (gNm 9) tYesM b__law_due_4 [9] (fs.map D.int) [] [some T, some (.int h), some (.int m), a, b, c, d, e, f, none] = .ok (.olst (fs.map (leanF true))) [some T, some (.int h), some (.int m), a, b, c, d, e, f, none] := by
  have := lcL_keep (g := gNm 9) (ft := tYesM) (fe := b__law_due_4) (vs := [9]) (env := [some T, some (.int h), some (.int m), a, b, c, d, e, f, none]) (fun _ => true) (leanD true) (fs.map D.int) (fun d hd => ?_) (by simp; omega)
  · rw [this, map_leanD]; simp
  · obtain ⟨f, hf1, rfl⟩ := List.mem_map.mp hd
    refine ⟨_, rfl, rfl, rfl, fun _ => ?_⟩
    simp [b__law_due_4, gTup_ok, leanD, leanF]
theorem sum_bvs (s : Int) : ∀ fs : List Int, (bvs s fs).sum = ((bits s fs).length : Int)
  | [] => rfl
  | f :: r => by
    have ih := sum_bvs s r
    unfold bvs bits at ih ⊢
    rw [List.map_cons, List.sum_cons, ih, List.filter_cons]
    rcases bv01 s f with h | h <;> simp [h]
    omega
theorem one_bvs (s : Int) : ∀ fs : List Int, (1 ∈ bvs s fs) ↔ bits s fs ≠ []
  | [] => by simp [bvs, bits]
  | f :: r => by
    have ih := one_bvs s r
    unfold bvs bits at ih ⊢
    rw [List.map_cons, List.mem_cons, ih, List.filter_cons]
    rcases bv01 s f with h | h <;> simp [h]
theorem eq1 (s f : Int) : gEq (.lst [.int (bv s f)]) (.lst [.int 1]) = some (.bl (decide (bv s f = 1))) := by
  have := gEq_ints (a := [bv s f]) (b := [1])
  simpa using this
theorem eq0 (s f : Int) : gEq (.lst [.int (bv s f)]) (.lst [.int 0]) = some (.bl (!decide (bv s f = 1))) := by
  have := gEq_ints (a := [bv s f]) (b := [0])
  rcases bv01 s f with h | h <;> simpa [h] using this
def dueT (c b : Bool) (l : List D) : D := .tup [.bl c, .bl b, .lst l]
theorem due_h (f h m : Int) (h0 : 0 ≤ f) : F__law_due [hvT f, .int h, .int m] = some (.ret (dueT (decide (bv h f = 1)) (!decide (bv m f = 1)) [leanF false f]), []) := by
  have d1 := fun (a b c d e g : Option D) => due_1 (hvT f) h m a b c d e g [f] (by simpa using h0) (by simp)
  have d2 := fun (a b c d e g : Option D) => due_2 (hvT f) h m a b c d e g [f] (by simpa using h0) (by simp)
  have ff := facts_h f
  simp [hvT, bvs] at d1 d2 ff
  simp [F__law_due, m__law_due, hvT, ff, d1, d2, at0, at1, gEq_str, sH, sL, sS, sD, gLst_ok, gTup_ok, eq1, eq0, dueT, leanF]
theorem due_l (f h m : Int) (h0 : 0 ≤ f) : F__law_due [lkT f, .int h, .int m] = some (.ret (dueT (!decide (bv m f = 1)) (decide (bv h f = 1)) [leanF true f]), []) := by
  have d1 := fun (a b c d e g : Option D) => due_1 (lkT f) h m a b c d e g [f] (by simpa using h0) (by simp)
  have d2 := fun (a b c d e g : Option D) => due_2 (lkT f) h m a b c d e g [f] (by simpa using h0) (by simp)
  have ff := facts_l f
  simp [lkT, bvs] at d1 d2 ff
  simp [F__law_due, m__law_due, lkT, ff, d1, d2, at0, at1, gEq_str, sH, sL, sS, sD, gLst_ok, gTup_ok, eq1, eq0, dueT, leanF]
theorem due_s (n : Int) (fs : List Int) (h m : Int) (hf : ∀ f ∈ fs, 0 ≤ f) (hl : fs.length ≤ 1000) : F__law_due [smT n fs, .int h, .int m] = some (.ret (dueT (decide (n ≤ (bits h fs).length)) (decide (((bits m fs).length : Int) < n)) (fs.map (leanF false))), []) := by
  have d1 := fun (a b c d e g : Option D) => due_1 (smT n fs) h m a b c d e g fs hf hl
  have d2 := fun (a b c d e g : Option D) => due_2 (smT n fs) h m a b c d e g fs hf hl
  have d3 := fun (a b c d e g : Option D) => due_3 (smT n fs) h m a b c d e g fs hl
  have ff := facts_s n fs
  simp [smT] at d1 d2 d3 ff
  simp [F__law_due, m__law_due, smT, ff, d1, d2, d3, at0, at1, gEq_str, sH, sL, sS, sD, gLst_ok, gTup_ok, dueT, bSum_ints, sum_bvs]
theorem at_map (l : List Int) (k : Nat) (hk : k < l.length) : atI (l.map D.int) (k : Int) = some (.int (l.getD k 0)) := by
  rw [List.getD_eq_getElem?_getD, List.getElem?_eq_getElem hk]
  exact atI_nat' (by rw [List.getElem?_map, List.getElem?_eq_getElem hk]; rfl)
theorem bvs_at (s : Int) (fs : List Int) (k : Nat) (hk : k < fs.length) : (bvs s fs).getD k 0 = bv s fs[k] := by
  rw [List.getD_eq_getElem?_getD, bvs, List.getElem?_map, List.getElem?_eq_getElem hk]; rfl
theorem bvs_take (s : Int) (fs : List Int) (k : Nat) : (bvs s fs).take k = bvs s (fs.take k) := by
  rw [bvs, bvs, List.map_take]
theorem gSl_take (l : List Int) (k : Nat) : gSl (.lst (l.map D.int)) none (some (k : Int)) = some (.olst ((l.take k).map D.int)) := by
  rw [gSl_lst, cut_hi, List.map_take]
theorem due_d (fs : List Int) (k : Nat) (hk : k < fs.length) (h m : Int) (hf : ∀ f ∈ fs, 0 ≤ f) (hl : fs.length ≤ 1000) : F__law_due [ldT fs k, .int h, .int m] = some (.ret (dueT (decide (bv h fs[k] = 1) && decide (bits m (fs.take k) = [])) (!decide (bv m fs[k] = 1) || !decide (bits h (fs.take k) = [])) (leadLean fs k)), []) := by
  have d1 := fun (a b c d e g : Option D) => due_1 (ldT fs k) h m a b c d e g fs hf hl
  have d2 := fun (a b c d e g : Option D) => due_2 (ldT fs k) h m a b c d e g fs hf hl
  have d4 := fun (a b c d e g : Option D) => due_4 (ldT fs k) h m a b c d e g (fs.take k) (by simp; omega)
  have ff := facts_d fs k
  have s1 := gSl_take fs k
  have s2 := gSl_take (bvs h fs) k
  have s3 := gSl_take (bvs m fs) k
  rw [bvs_take] at s2 s3
  have a1 := fs_at fs k hk
  have a2 := at_map (bvs h fs) k (by simpa [bvs] using hk)
  have a3 := at_map (bvs m fs) k (by simpa [bvs] using hk)
  rw [bvs_at _ _ _ hk] at a2 a3
  have g1 := gNotIn_ints (a := 1) (b := bvs m (fs.take k))
  have g2 := gIn_ints (a := 1) (b := bvs h (fs.take k))
  have e1 : decide (1 ∈ bvs m (fs.take k)) = !decide (bits m (fs.take k) = []) := by
    by_cases hx : bits m (fs.take k) = [] <;> simp [one_bvs, hx]
  have e2 : decide (1 ∈ bvs h (fs.take k)) = !decide (bits h (fs.take k) = []) := by
    by_cases hx : bits h (fs.take k) = [] <;> simp [one_bvs, hx]
  rw [e1, Bool.not_not] at g1
  rw [e2] at g2
  have hadd : gAdd (.lst ((fs.take k).map (leanF true))) (.lst [leanF false fs[k]]) = some (.olst (leadLean fs k)) := by
    rw [gAdd_lst (by simp; omega)]
    unfold leadLean
    rw [List.getD_eq_getElem?_getD, List.getElem?_eq_getElem hk]; rfl
  simp only [ldT] at d1 d2 d4 ff
  have fl : ∀ l : List D, frzs (l.take k) = (frzs l).take k := fun l => by simp [frzs_map]
  simp only [leanF] at hadd
  have b1 : decide (bv m fs[k] = 0) = !decide (bv m fs[k] = 1) := by rcases bv01 m fs[k] with h | h <;> simp [h]
  by_cases hb : bv h fs[k] = 1 <;> by_cases hb2 : bv m fs[k] = 0
  all_goals have hb3 : decide (bv m fs[k] = 1) = !decide (bv m fs[k] = 0) := by rw [b1]; simp
  all_goals simp [hb2] at hb3
  all_goals simp [F__law_due, m__law_due, ldT, ff, d1, d2, d4, at0, at1, at2, gEq_str, sH, sL, sS, sD, gLst_ok, gTup_ok, s1, s2, s3, a1, a2, a3, g1, g2, hadd, hb, hb2, hb3, dueT, -List.map_take]
end K11
namespace K11
open PySem PySem.Spec PyProof.Rows L2 VL
theorem ok_h (f : Int) : okD (hvT f) 20 = true := by simp [hvT, okD_tup, okD_str, sH, okD_int]
theorem ok_l (f : Int) : okD (lkT f) 20 = true := by simp [lkT, okD_tup, okD_str, sL, okD_int]
theorem ok_s (n : Int) (fs : List Int) : okD (smT n fs) 20 = true := by simp [smT, okD_tup, okD_str, sS, okD_int, okDs_ints]
theorem ok_d (fs : List Int) (k : Nat) : okD (ldT fs k) 20 = true := by simp [ldT, okD_tup, okD_str, sD, okD_int, okDs_ints]
theorem ok_ints (fs : List Int) : okD (.tup (fs.map D.int)) 20 = true := by rw [okD_tup]; exact okDs_ints _ _
theorem ok_lean (b : Bool) (fs : List Int) (n : Nat) : okDs (fs.map (leanF b)) (n + 1) = true := okDs_of fun d hd => by
  obtain ⟨f, _, rfl⟩ := List.mem_map.mp hd
  simp [leanF, okD_tup, okD_int, okD_bl]
theorem okDs_app (a b : List D) (n : Nat) : okDs (a ++ b) n = (okDs a n && okDs b n) := by simp [okDs_all]
theorem ok_leadLean (fs : List Int) (k n : Nat) : okDs (leadLean fs k) (n + 1) = true := by
  unfold leadLean
  rw [okDs_app, ok_lean]
  simp [leanF, okD_tup, okD_int, okD_bl]
theorem fields_h (f : Int) : F__law_fields [hv f, hvT f] = some (.ret (.bl true), []) := by
  simp [F__law_fields, m__law_fields, hv, hvT, at0, at1, gEq_str, sH, sS, sD]
theorem fields_l (f : Int) : F__law_fields [lk f, lkT f] = some (.ret (.bl true), []) := by
  simp [F__law_fields, m__law_fields, lk, lkT, at0, at1, gEq_str, sL, sS, sD]
theorem fields_s (n : Int) (fs : List Int) : F__law_fields [sm n fs, smT n fs] = some (.ret (.bl true), []) := by
  simp [F__law_fields, m__law_fields, sm, smT, at0, at1, at2, gEq_str, sS, gEq_self (ok_ints fs)]
theorem fields_d (fs : List Int) (k : Nat) : F__law_fields [ld fs k, ldT fs k] = some (.ret (.bl true), []) := by
  simp [F__law_fields, m__law_fields, ld, ldT, at0, at1, at2, gEq_str, sS, sD, gEq_self (ok_ints fs)]
theorem gNe_bls (a b : Bool) : gNe (.lst [.bl a, .bl b]) (.lst [.bl a, .bl b]) = some (.bl false) := gNe_self (by simp [okD_lst, okD_bl])
/-- all that the law asks of one cond -/
theorem right_of (told : D) (c : Str) (ns : List Str) (ds : List D) (h m : Int) (cb bb : Bool) (ll : List D) (ht : frz told = told) (hd : frzs ds = ds) (hl : frzs ll = ll) (hk : okD told 20 = true) (hk2 : okDs ll 19 = true)
    (made : F__law_made [told] = some (.ret (.oins c ns ds), [])) (due : F__law_due [told, .int h, .int m] = some (.ret (dueT cb bb ll), []))
    (is : gIsC [("Have", true), ("Lack", true), ("Some", true), ("Lead", true)] (.ins c ns ds) = some (.bl true)) (fields : F__law_fields [.ins c ns ds, told] = some (.ret (.bl true), []))
    (shown : ∀ env : VL.Env, env[3]? = some (some (.ins c ns ds)) → eMeth [("Have", F_Have_shown), ("Lack", F_Lack_shown), ("Some", F_Some_shown), ("Lead", F_Lead_shown)] "shown" [] (eVar 3) aNil env = .ok told env)
    (carried : ∀ env : VL.Env, env[3]? = some (some (.ins c ns ds)) → env[1]? = some (some (.int h)) → env[2]? = some (some (.int m)) → eMeth [("Have", F_Have_carried), ("Lack", F_Lack_carried), ("Some", F_Some_carried), ("Lead", F_Lead_carried)] "carried" [] (eVar 3) (aCons (eVar 1) (aCons (eVar 2) aNil)) env = .ok (.bl cb) env)
    (blocked : ∀ env : VL.Env, env[3]? = some (some (.ins c ns ds)) → env[1]? = some (some (.int h)) → env[2]? = some (some (.int m)) → eMeth [("Have", F_Have_blocked), ("Lack", F_Lack_blocked), ("Some", F_Some_blocked), ("Lead", F_Lead_blocked)] "blocked" [] (eVar 3) (aCons (eVar 1) (aCons (eVar 2) aNil)) env = .ok (.bl bb) env)
    (leaning : ∀ env : VL.Env, env[3]? = some (some (.ins c ns ds)) → eMeth [("Have", F_Have_leaning), ("Lack", F_Lack_leaning), ("Some", F_Some_leaning), ("Lead", F_Lead_leaning)] "leaning" [] (eVar 3) aNil env = .ok (.olst ll) env) :
    F__law_right [told, .int h, .int m] = some (.ret (.bl true), []) := by
  have e1 : gNe told told = some (.bl false) := gNe_self hk
  have e2 : gEq told told = some (.bl true) := gEq_self hk
  have e3 : gNe (.lst ll) (.lst ll) = some (.bl false) := gNe_self (by rw [okD_lst]; exact hk2)
  have e4 : gEq (.lst ll) (.lst ll) = some (.bl true) := gEq_self (by rw [okD_lst]; exact hk2)
  simp [dueT] at due
  simp [F__law_right, m__law_right, ht, hd, hl, made, due, is, fields, shown, carried, blocked, leaning, e1, e2, e3, e4, gNe_bls, at0, at1, at2, isB, gLst_ok, -eMeth_ap, -gIsC_ins]
theorem right_h (f h m : Int) (h0 : 0 ≤ f) : F__law_right [hvT f, .int h, .int m] = some (.ret (.bl true), []) := by
  have fz : frz (D.ins "Have" ["fact"] [.int f]) = D.ins "Have" ["fact"] [.int f] := by simp
  refine right_of (hvT f) "Have" ["fact"] [.int f] h m _ _ [leanF false f] (by simp [hvT]) (by simp) (by simp [frz_leanF]) (ok_h f) (by simpa using ok_lean false [f] 18) (made_h f) (due_h f h m h0) (by simp) (fields_h f) (fun env h3 => ?_) (fun env h3 h1 h2 => ?_) (fun env h3 h1 h2 => ?_) (fun env h3 => ?_)
  · have := have_s f
    simp [hv] at this
    simp [-eVar_ap, eVar_same h3 fz, this, hvT]
  · have := have_c f h m h0
    simp [hv] at this
    simp [-eVar_ap, eVar_same h3 fz, eVar_same h1 frz_int, eVar_same h2 frz_int, this]
  · have := have_b f h m h0
    simp [hv] at this
    simp [-eVar_ap, eVar_same h3 fz, eVar_same h1 frz_int, eVar_same h2 frz_int, this]
  · have := have_l f
    simp [hv] at this
    simp [-eVar_ap, eVar_same h3 fz, this]
theorem right_l (f h m : Int) (h0 : 0 ≤ f) : F__law_right [lkT f, .int h, .int m] = some (.ret (.bl true), []) := by
  have fz : frz (D.ins "Lack" ["fact"] [.int f]) = D.ins "Lack" ["fact"] [.int f] := by simp
  refine right_of (lkT f) "Lack" ["fact"] [.int f] h m _ _ [leanF true f] (by simp [lkT]) (by simp) (by simp [frz_leanF]) (ok_l f) (by simpa using ok_lean true [f] 18) (made_l f) (due_l f h m h0) (by simp) (fields_l f) (fun env h3 => ?_) (fun env h3 h1 h2 => ?_) (fun env h3 h1 h2 => ?_) (fun env h3 => ?_)
  · have := lack_s f
    simp [lk] at this
    simp [-eVar_ap, eVar_same h3 fz, this, lkT]
  · have := lack_c f h m h0
    simp [lk] at this
    simp [-eVar_ap, eVar_same h3 fz, eVar_same h1 frz_int, eVar_same h2 frz_int, this]
  · have := lack_b f h m h0
    simp [lk] at this
    simp [-eVar_ap, eVar_same h3 fz, eVar_same h1 frz_int, eVar_same h2 frz_int, this]
  · have := lack_l f
    simp [lk] at this
    simp [-eVar_ap, eVar_same h3 fz, this]
theorem right_s (n : Int) (fs : List Int) (h m : Int) (hf : ∀ f ∈ fs, 0 ≤ f) (hl : fs.length ≤ 1000) : F__law_right [smT n fs, .int h, .int m] = some (.ret (.bl true), []) := by
  have fz : frz (D.ins "Some" ["number", "facts"] [.int n, .tup (fs.map .int)]) = D.ins "Some" ["number", "facts"] [.int n, .tup (fs.map .int)] := by simp
  refine right_of (smT n fs) "Some" ["number", "facts"] [.int n, .tup (fs.map .int)] h m _ _ (fs.map (leanF false)) (by simp [smT]) (by simp) (by simp [frz_leanF]) (ok_s n fs) (ok_lean false fs 18) (made_s n fs) (due_s n fs h m hf hl) (by simp) (fields_s n fs) (fun env h3 => ?_) (fun env h3 h1 h2 => ?_) (fun env h3 h1 h2 => ?_) (fun env h3 => ?_)
  · have := some_s n fs
    simp [sm] at this
    simp [-eVar_ap, eVar_same h3 fz, this, smT]
  · have := some_c n fs h m hf hl
    simp [sm] at this
    simp [-eVar_ap, eVar_same h3 fz, eVar_same h1 frz_int, eVar_same h2 frz_int, this]
  · have := some_b n fs h m hf hl
    simp [sm] at this
    simp [-eVar_ap, eVar_same h3 fz, eVar_same h1 frz_int, eVar_same h2 frz_int, this]
  · have := some_l n fs hl
    simp [sm] at this
    simp [-eVar_ap, eVar_same h3 fz, this]
theorem right_d (fs : List Int) (k : Nat) (hk : k < fs.length) (h m : Int) (hf : ∀ f ∈ fs, 0 ≤ f) (hl : fs.length ≤ 1000) : F__law_right [ldT fs k, .int h, .int m] = some (.ret (.bl true), []) := by
  have fz : frz (D.ins "Lead" ["facts", "at"] [.tup (fs.map .int), .int k]) = D.ins "Lead" ["facts", "at"] [.tup (fs.map .int), .int k] := by simp
  refine right_of (ldT fs k) "Lead" ["facts", "at"] [.tup (fs.map .int), .int k] h m _ _ (leadLean fs k) (by simp [ldT]) (by simp) (by simp [frz_leanF]) (ok_d fs k) (ok_leadLean fs k 18) (made_d fs k) (due_d fs k hk h m hf hl) (by simp) (fields_d fs k) (fun env h3 => ?_) (fun env h3 h1 h2 => ?_) (fun env h3 h1 h2 => ?_) (fun env h3 => ?_)
  · have := lead_s fs k
    simp [ld] at this
    simp [-eVar_ap, eVar_same h3 fz, this, ldT]
  · have := lead_c fs k hk h m hf hl
    simp [ld] at this
    simp [-eVar_ap, eVar_same h3 fz, eVar_same h1 frz_int, eVar_same h2 frz_int, this]
  · have := lead_b fs k hk h m hf hl
    simp [ld] at this
    simp [-eVar_ap, eVar_same h3 fz, eVar_same h1 frz_int, eVar_same h2 frz_int, this]
  · have := lead_l fs k hk hl
    simp [ld] at this
    simp [-eVar_ap, eVar_same h3 fz, this]
end K11
namespace K11
open PySem PySem.Spec PyProof.Rows L2 VL
def okF (fs : List Int) : Prop := 1 ≤ fs.length ∧ fs.length ≤ 6 ∧ ∀ f ∈ fs, 0 ≤ f ∧ f < 120
def Told (d : D) : Prop := (∃ f, (0 ≤ f ∧ f < 120) ∧ d = hvT f) ∨ (∃ f, (0 ≤ f ∧ f < 120) ∧ d = lkT f) ∨ (∃ n fs, okF fs ∧ d = smT n fs) ∨ ∃ fs k, okF fs ∧ k < fs.length ∧ d = ldT fs k
theorem Told.right {d : D} (t : Told d) (h m : Int) : F__law_right [d, .int h, .int m] = some (.ret (.bl true), []) := by
  rcases t with ⟨f, hf, rfl⟩ | ⟨f, hf, rfl⟩ | ⟨n, fs, hf, rfl⟩ | ⟨fs, k, hf, hk, rfl⟩
  · exact right_h f h m hf.1
  · exact right_l f h m hf.1
  · exact right_s n fs h m (fun f q => (hf.2.2 f q).1) (by have := hf.2.1; omega)
  · exact right_d fs k hk h m (fun f q => (hf.2.2 f q).1) (by have := hf.2.1; omega)
theorem Told.facts {d : D} (t : Told d) : ∃ fs, okF fs ∧ F__law_facts [d] = some (.ret (.olst (fs.map .int)), []) := by
  rcases t with ⟨f, hf, rfl⟩ | ⟨f, hf, rfl⟩ | ⟨n, fs, hf, rfl⟩ | ⟨fs, k, hf, hk, rfl⟩
  · exact ⟨[f], ⟨by simp, by simp, by simpa using hf⟩, facts_h f⟩
  · exact ⟨[f], ⟨by simp, by simp, by simpa using hf⟩, facts_l f⟩
  · exact ⟨fs, hf, facts_s n fs⟩
  · exact ⟨fs, hf, facts_d fs k⟩
theorem Told.fz {d : D} (t : Told d) : frz d = d := by
  rcases t with ⟨f, hf, rfl⟩ | ⟨f, hf, rfl⟩ | ⟨n, fs, hf, rfl⟩ | ⟨fs, k, hf, hk, rfl⟩ <;> simp [hvT, lkT, smT, ldT]
theorem set_eq (n : Int) (d : D) (t : Told d) : ∃ s n', F__law_set [.olst [.int n], d] = some (.ret (.int s), [.olst [.int n']]) := by
  obtain ⟨fs, ⟨_, _, hf⟩, hF⟩ := t.facts
  have loop : ∃ s n' z, forL (gNm 3) b__law_set_1 (fs.map D.int) [some (.olst [.int n]), some d, some (.int 0), none] = .ok .nx [some (.olst [.int n']), some d, some (.int s), z] := by
    refine forL_ind (fun _ env => ∃ s n' z, env = [some (.olst [.int n']), some d, some (.int s), z]) (fun r => ∃ s n' z, r = .ok .nx [some (.olst [.int n']), some d, some (.int s), z]) (fun i x env hx P => ?_) (fun env ⟨s, n', z, P⟩ => ⟨s, n', z, by rw [P]⟩) ⟨0, n, none, rfl⟩
    obtain ⟨s, n', z, rfl⟩ := P
    rw [List.getElem?_map] at hx
    cases hq : fs[i]? with
    | none => rw [hq] at hx; cases hx
    | some f =>
      rw [hq] at hx
      cases hx
      have hb := hf f (List.mem_of_getElem? hq)
      have hp : powC (n' % 2) f = true := powC_ok hb.1 (by omega) (by omega) (by omega)
      refine ⟨_, rfl, ?_⟩
      simp [b__law_set_1, take_eq n' 2 (by decide) (by decide), gShl_int hp]
  obtain ⟨s, n', z, hl⟩ := loop
  have t2 := take_eq n' 2 (by decide) (by decide)
  have t60 := take_eq (n' / 2) 1152921504606846976 (by decide) (by decide)
  have p60 : gPow (.int 2) (.int 60) = some (.int 1152921504606846976) := by
    rw [gPow_int (powC_ok (by decide) (by decide) (by decide) (by decide))]; rfl
  have hd := t.fz
  by_cases h0 : n' % 2 = 0
  · refine ⟨Builtin.bitOr s (n' / 2 % 1152921504606846976), n' / 2 / 1152921504606846976, ?_⟩
    simp [F__law_set, m__law_set, hd, hF, hl, t2, t60, h0, p60]
  · refine ⟨s, n' / 2, ?_⟩
    simp [F__law_set, m__law_set, hd, hF, hl, t2, h0]
theorem map_erase (l : List Int) (j : Nat) : (l.map D.int).eraseIdx j = (l.eraseIdx j).map D.int := by
  induction l generalizing j with
  | nil => simp
  | cons a r ih => cases j <;> simp [ih]
theorem listed_eq (n : Int) : ∃ fs n', okF fs ∧ F__law_listed [.olst [.int n]] = some (.ret (.tup (fs.map .int)), [.olst [.int n']]) := by
  have t6 := take_eq n 6 (by decide) (by decide)
  have hr : 0 ≤ n % 6 ∧ n % 6 < 6 := ⟨Int.emod_nonneg _ (by decide), Int.emod_lt_of_pos _ (by decide)⟩
  have rg : rng1 [.int (1 + n % 6)] = some (rangeD 0 (1 + n % 6)) := rng1_ok (by omega) (by omega)
  have g120 : gLR1 (.int 120) = some (.olst (rangeD 0 120)) := gLR1_int (by decide) (by decide)
  have h120 : rangeD 0 120 = ((List.range 120).map fun (k : Nat) => (k : Int)).map D.int := by
    unfold rangeD
    rw [List.map_map]
    simp
  have lc : ∃ (fs ls : List Int) (n' : Int), lcL (gNm 2) tYesM b__law_listed_1 [2] (rangeD 0 (1 + n % 6)) [] [some (.olst [.int (n / 6)]), some (.olst (rangeD 0 120)), none] = .ok (.olst (fs.map .int)) [some (.olst [.int n']), some (.olst (ls.map .int)), none] ∧ okF fs := by
    refine lcL_ind (fun i acc env => ∃ (fs ls : List Int) (n' : Int) (z : Option D), acc = fs.map .int ∧ fs.length = i ∧ i ≤ 6 ∧ ls.length = 120 - i ∧ (∀ f ∈ fs, 0 ≤ f ∧ f < 120) ∧ (∀ f ∈ ls, 0 ≤ f ∧ f < 120) ∧ env = [some (.olst [.int n']), some (.olst (ls.map .int)), z])
      (fun r => ∃ (fs ls : List Int) (n' : Int), r = .ok (.olst (fs.map .int)) [some (.olst [.int n']), some (.olst (ls.map .int)), none] ∧ okF fs) (fun i d acc env hd P => ?_) (fun acc env P => ?_) ⟨[], (List.range 120).map fun (k : Nat) => (k : Int), n / 6, none, rfl, rfl, by omega, by simp, fun f h => by simp at h, fun f h => by simp at h; obtain ⟨a, h1, rfl⟩ := h; omega, by rw [h120]⟩
    · obtain ⟨fs, ls, n', z, rfl, h1, h2, h3, h4, h5, rfl⟩ := P
      obtain ⟨rfl, hi⟩ := rangeD_get hd
      have hpos : (0 : Int) < ls.length := by omega
      have tk := take_eq n' ls.length hpos (by omega)
      have hm : 0 ≤ n' % ls.length ∧ n' % ls.length < ls.length := ⟨Int.emod_nonneg _ (by omega), Int.emod_lt_of_pos _ hpos⟩
      obtain ⟨j, hj⟩ : ∃ j : Nat, n' % ls.length = j := ⟨(n' % ls.length).toNat, by omega⟩
      have hjl : j < ls.length := by omega
      have hp : mPopAt (ls.map .int) [.int (n' % ls.length)] = some (.int ls[j], (ls.eraseIdx j).map .int) := by
        unfold mPopAt ixN
        rw [hj]
        simp [hjl, map_erase]
        omega
      refine ⟨_, rfl, ?_⟩
      simp [b__law_listed_1, tk, hp]
      refine ⟨by omega, fs ++ [ls[j]], by simp, by simp [h1], by omega, ls.eraseIdx j, by rw [List.length_eraseIdx_of_lt hjl]; omega, fun f hf => ?_, fun f hf => h5 f (List.mem_of_mem_eraseIdx hf), rfl⟩
      rcases List.mem_append.mp hf with q | q
      · exact h4 f q
      · simp at q; rw [q]; exact h5 _ (List.getElem_mem hjl)
    · obtain ⟨fs, ls, n', z, rfl, h1, h2, h3, h4, h5, rfl⟩ := P
      rw [rangeD_length] at h1
      exact ⟨fs, ls, n', by simp, by omega, by omega, h4⟩
  obtain ⟨fs, ls, n', hlc, ok⟩ := lc
  refine ⟨fs, n', ok, ?_⟩
  simp [F__law_listed, m__law_listed, g120, t6, rg, hlc]
end K11
namespace K11
open PySem PySem.Spec PyProof.Rows L2 VL
theorem drawn_eq (n : Int) : ∃ d n', Told d ∧ F__law_drawn [.olst [.int n]] = some (.ret d, [.olst [.int n']]) := by
  have t4 := take_eq n 4 (by decide) (by decide)
  have hr : 0 ≤ n % 4 ∧ n % 4 < 4 := ⟨Int.emod_nonneg _ (by decide), Int.emod_lt_of_pos _ (by decide)⟩
  have t120 := take_eq (n / 4) 120 (by decide) (by decide)
  have h120 : 0 ≤ n / 4 % 120 ∧ n / 4 % 120 < 120 := ⟨Int.emod_nonneg _ (by decide), Int.emod_lt_of_pos _ (by decide)⟩
  by_cases h0 : n % 4 = 0
  · exact ⟨hvT (n / 4 % 120), n / 4 / 120, .inl ⟨_, h120, rfl⟩, by simp [F__law_drawn, m__law_drawn, t4, h0, t120, gTup_ok, hvT]⟩
  · by_cases h1 : n % 4 = 1
    · exact ⟨lkT (n / 4 % 120), n / 4 / 120, .inr (.inl ⟨_, h120, rfl⟩), by simp [F__law_drawn, m__law_drawn, t4, h1, t120, gTup_ok, lkT]⟩
    · obtain ⟨fs, n', ok, hl⟩ := listed_eq (n / 4)
      by_cases h2 : n % 4 = 2
      · have t6 := take_eq n' 6 (by decide) (by decide)
        exact ⟨smT (1 + n' % 6) fs, n' / 6, .inr (.inr (.inl ⟨_, fs, ok, rfl⟩)), by simp [F__law_drawn, m__law_drawn, t4, h2, hl, t6, gTup_ok, smT]⟩
      · have hpos : (0 : Int) < fs.length := by have := ok.1; omega
        have tk := take_eq n' fs.length hpos (by have := ok.2.1; omega)
        have hm : 0 ≤ n' % fs.length ∧ n' % fs.length < fs.length := ⟨Int.emod_nonneg _ (by omega), Int.emod_lt_of_pos _ hpos⟩
        refine ⟨ldT fs (n' % fs.length).toNat, n' / fs.length, .inr (.inr (.inr ⟨fs, _, ok, by omega, rfl⟩)), ?_⟩
        have e : (((n' % fs.length).toNat : Nat) : Int) = n' % fs.length := by omega
        simp [F__law_drawn, m__law_drawn, t4, h0, h1, h2, hl, tk, gTup_ok, ldT, e]
theorem law_eq (ns : List Int) (hl : ns.length ≤ 63) : F_law [.scr ns] = some (.ret (.bl true), []) := by
  have loop1 : ∀ (hi : Int), ∃ a b c d, forL (gNm 1) b_law_1 (rangeD 1 hi) [some (.scr ns), none, none, none, none] = .ok .nx [some (.scr ns), a, b, c, d] := fun hi => by
    refine forL_ind (fun _ env => ∃ a b c d, env = [some (.scr ns), a, b, c, d]) (fun r => ∃ a b c d, r = .ok .nx [some (.scr ns), a, b, c, d]) (fun i d env hd P => ?_) (fun env ⟨a, b, c, d, P⟩ => ⟨a, b, c, d, by rw [P]⟩) ⟨none, none, none, none, rfl⟩
    obtain ⟨a, b, c, d, rfl⟩ := P
    obtain ⟨rfl, hi⟩ := rangeD_get hd
    obtain ⟨n, hb⟩ := box_eq ns (1 + i)
    obtain ⟨t, n1, ht, hdr⟩ := drawn_eq n
    obtain ⟨s1, n2, hs1⟩ := set_eq n1 t ht
    obtain ⟨s2, n3, hs2⟩ := set_eq n2 t ht
    obtain ⟨s3, n4, hs3⟩ := set_eq n3 t ht
    have r1 := ht.right s1 (Builtin.bitOr s1 s2)
    have r2 := ht.right s1 s3
    have fz := ht.fz
    refine ⟨_, rfl, ?_⟩
    have e : ((1 + i : Nat) : Int) = 1 + (i : Int) := by omega
    rw [e] at hb
    simp [b_law_1, hb, hdr, hs1, hs2, hs3, r1, r2, fz]
  obtain ⟨a, b, c, d, l1⟩ := loop1 (if (2 : Int) < (if (60 : Int) < ns.length then 60 else (ns.length : Int)) then (if (60 : Int) < ns.length then 60 else (ns.length : Int)) else 2)
  have hrng : rng2 [.int 1, .int (if (2 : Int) < (if (60 : Int) < ns.length then 60 else (ns.length : Int)) then (if (60 : Int) < ns.length then 60 else (ns.length : Int)) else 2)] = some (rangeD 1 (if (2 : Int) < (if (60 : Int) < ns.length then 60 else (ns.length : Int)) then (if (60 : Int) < ns.length then 60 else (ns.length : Int)) else 2)) :=
    rng2_ok (by decide) (by decide) (by split <;> split <;> omega) (by split <;> split <;> omega)
  simp only [F_law]
  simp [m_law, hrng, l1]
end K11
namespace K11
open PySem PySem.Spec PyProof.Rows L2 VL
def SP (K : PySem.W.Frag) : Sp := fun vs H Q _ => ∃ (a : Addr) (ns : List Int), vs = [.ref a] ∧ SqL K H a (ns.map V.int) ∧ ns.length ≤ 63 ∧ ∀ H', Q (.bl true) H'
theorem ok_end {P : Program} {w : World} {K : PySem.W.Frag} {mg : Str → Option Value} {base : Heap} (T : Txt K mg) : FnOk P w K mg base CX0 5 T.a_law T.d_lawd ["_law_script"] (SP K) :=
  (ok_law T).imp fun vs H Q E h => by
    obtain ⟨a, ns, rfl, hS, hl, q⟩ := h
    exact spV_law (law_eq ns hl) hS q
theorem all_mk {l : PySem.W.OpenLaw} {w : World} {K : PySem.W.Frag} {h : Heap} {mg : Str → Option Value} {fa : Addr} (X : K.In h) (G : h.Ns mainGlobals mg) (hfa : mg "law" = some (.ref fa))
    {AHave : Addr}
    {ALack : Addr}
    {ASome : Addr}
    {ALead : Addr}
    {ACond : Addr}
    {f0 : Addr} {od0 an0 : Option Addr} {sl0 : Array (Option Value)} {oc0 kV0 dc0 pm0 cd0 ct0 : Value}
    {f1 : Addr} {od1 an1 : Option Addr} {sl1 : Array (Option Value)} {oc1 kV1 dc1 pm1 cd1 ct1 : Value}
    {f2 : Addr} {od2 an2 : Option Addr} {sl2 : Array (Option Value)} {oc2 kV2 dc2 pm2 cd2 ct2 : Value}
    {f3 : Addr} {od3 an3 : Option Addr} {sl3 : Array (Option Value)} {oc3 kV3 dc3 pm3 cd3 ct3 : Value}
    {f4 : Addr} {od4 an4 : Option Addr} {sl4 : Array (Option Value)} {oc4 kV4 dc4 pm4 cd4 ct4 : Value}
    {f5 : Addr} {od5 an5 : Option Addr} {sl5 : Array (Option Value)} {oc5 kV5 dc5 pm5 cd5 ct5 : Value}
    {f6 : Addr} {od6 an6 : Option Addr} {sl6 : Array (Option Value)} {oc6 kV6 dc6 pm6 cd6 ct6 : Value}
    {f7 : Addr} {od7 an7 : Option Addr} {sl7 : Array (Option Value)} {oc7 kV7 dc7 pm7 cd7 ct7 : Value}
    {f8 : Addr} {od8 an8 : Option Addr} {sl8 : Array (Option Value)} {oc8 kV8 dc8 pm8 cd8 ct8 : Value}
    {f9 : Addr} {od9 an9 : Option Addr} {sl9 : Array (Option Value)} {oc9 kV9 dc9 pm9 cd9 ct9 : Value}
    {f10 : Addr} {od10 an10 : Option Addr} {sl10 : Array (Option Value)} {oc10 kV10 dc10 pm10 cd10 ct10 : Value}
    {f11 : Addr} {od11 an11 : Option Addr} {sl11 : Array (Option Value)} {oc11 kV11 dc11 pm11 cd11 ct11 : Value}
    {f12 : Addr} {od12 an12 : Option Addr} {sl12 : Array (Option Value)} {oc12 kV12 dc12 pm12 cd12 ct12 : Value}
    {f13 : Addr} {od13 an13 : Option Addr} {sl13 : Array (Option Value)} {oc13 kV13 dc13 pm13 cd13 ct13 : Value}
    {f14 : Addr} {od14 an14 : Option Addr} {sl14 : Array (Option Value)} {oc14 kV14 dc14 pm14 cd14 ct14 : Value}
    {f15 : Addr} {od15 an15 : Option Addr} {sl15 : Array (Option Value)} {oc15 kV15 dc15 pm15 cd15 ct15 : Value}
    {f16 : Addr} {od16 an16 : Option Addr} {sl16 : Array (Option Value)} {oc16 kV16 dc16 pm16 cd16 ct16 : Value}
    {f17 : Addr} {od17 an17 : Option Addr} {sl17 : Array (Option Value)} {oc17 kV17 dc17 pm17 cd17 ct17 : Value}
    {f18 : Addr} {od18 an18 : Option Addr} {sl18 : Array (Option Value)} {oc18 kV18 dc18 pm18 cd18 ct18 : Value}
    {f19 : Addr} {od19 an19 : Option Addr} {sl19 : Array (Option Value)} {oc19 kV19 dc19 pm19 cd19 ct19 : Value}
    {f20 : Addr} {od20 an20 : Option Addr} {sl20 : Array (Option Value)} {oc20 kV20 dc20 pm20 cd20 ct20 : Value}
    {f21 : Addr} {od21 an21 : Option Addr} {sl21 : Array (Option Value)} {oc21 kV21 dc21 pm21 cd21 ct21 : Value}
    {f22 : Addr} {od22 an22 : Option Addr} {sl22 : Array (Option Value)} {oc22 kV22 dc22 pm22 cd22 ct22 : Value}
    {f23 : Addr} {od23 an23 : Option Addr} {sl23 : Array (Option Value)} {oc23 kV23 dc23 pm23 cd23 ct23 : Value}
    {f24 : Addr} {od24 an24 : Option Addr} {sl24 : Array (Option Value)} {oc24 kV24 dc24 pm24 cd24 ct24 : Value}
    {f25 : Addr} {od25 an25 : Option Addr} {sl25 : Array (Option Value)} {oc25 kV25 dc25 pm25 cd25 ct25 : Value}
    {f26 : Addr} {od26 an26 : Option Addr} {sl26 : Array (Option Value)} {oc26 kV26 dc26 pm26 cd26 ct26 : Value}
    {f27 : Addr} {od27 an27 : Option Addr} {sl27 : Array (Option Value)} {oc27 kV27 dc27 pm27 cd27 ct27 : Value}
    {f28 : Addr} {od28 an28 : Option Addr} {sl28 : Array (Option Value)} {oc28 kV28 dc28 pm28 cd28 ct28 : Value}
    {f29 : Addr} {od29 an29 : Option Addr} {sl29 : Array (Option Value)} {oc29 kV29 dc29 pm29 cd29 ct29 : Value}
    {f30 : Addr} {od30 an30 : Option Addr} {sl30 : Array (Option Value)} {oc30 kV30 dc30 pm30 cd30 ct30 : Value}
    {f31 : Addr} {od31 an31 : Option Addr} {sl31 : Array (Option Value)} {oc31 kV31 dc31 pm31 cd31 ct31 : Value}
    {f32 : Addr} {od32 an32 : Option Addr} {sl32 : Array (Option Value)} {oc32 kV32 dc32 pm32 cd32 ct32 : Value}
    {f33 : Addr} {od33 an33 : Option Addr} {sl33 : Array (Option Value)} {oc33 kV33 dc33 pm33 cd33 ct33 : Value}
    (gHave : PySem.W.nsIn K mainGlobals "Have" = some (some (.ref AHave)))
    (gLack : PySem.W.nsIn K mainGlobals "Lack" = some (some (.ref ALack)))
    (gSome : PySem.W.nsIn K mainGlobals "Some" = some (some (.ref ASome)))
    (gLead : PySem.W.nsIn K mainGlobals "Lead" = some (some (.ref ALead)))
    (gCond : PySem.W.nsIn K mainGlobals "Cond" = some (some (.ref ACond)))
    (a0 : PySem.W.nsIn K mainGlobals "_law_cell" = some (some (.ref f0)))
    (l0 : K.lookup f0 = some ⟨oc0, od0, .func (PySem.W.fnOf "_law_cell" "_law_cell" (defArgs s__law_cell) (defBody s__law_cell) (defScope s__law_cell) .none kV0 dc0 pm0 an0 cd0 ct0), sl0⟩) (c0 : PySem.W.codeIn K cd0 "_law_cell" = true) (k0 : PySem.W.keepIn K (.ref f0) = true)
    (a1 : PySem.W.nsIn K mainGlobals "_law_mix" = some (some (.ref f1)))
    (l1 : K.lookup f1 = some ⟨oc1, od1, .func (PySem.W.fnOf "_law_mix" "_law_mix" (defArgs s__law_mix) (defBody s__law_mix) (defScope s__law_mix) .none kV1 dc1 pm1 an1 cd1 ct1), sl1⟩) (c1 : PySem.W.codeIn K cd1 "_law_mix" = true) (k1 : PySem.W.keepIn K (.ref f1) = true)
    (a2 : PySem.W.nsIn K mainGlobals "_law_box" = some (some (.ref f2)))
    (l2 : K.lookup f2 = some ⟨oc2, od2, .func (PySem.W.fnOf "_law_box" "_law_box" (defArgs s__law_box) (defBody s__law_box) (defScope s__law_box) .none kV2 dc2 pm2 an2 cd2 ct2), sl2⟩) (c2 : PySem.W.codeIn K cd2 "_law_box" = true) (k2 : PySem.W.keepIn K (.ref f2) = true)
    (a3 : PySem.W.nsIn K mainGlobals "_law_take" = some (some (.ref f3)))
    (l3 : K.lookup f3 = some ⟨oc3, od3, .func (PySem.W.fnOf "_law_take" "_law_take" (defArgs s__law_take) (defBody s__law_take) (defScope s__law_take) .none kV3 dc3 pm3 an3 cd3 ct3), sl3⟩) (c3 : PySem.W.codeIn K cd3 "_law_take" = true) (k3 : PySem.W.keepIn K (.ref f3) = true)
    (a4 : PySem.W.nsIn K mainGlobals "_law_listed" = some (some (.ref f4)))
    (l4 : K.lookup f4 = some ⟨oc4, od4, .func (PySem.W.fnOf "_law_listed" "_law_listed" (defArgs s__law_listed) (defBody s__law_listed) (defScope s__law_listed) .none kV4 dc4 pm4 an4 cd4 ct4), sl4⟩) (c4 : PySem.W.codeIn K cd4 "_law_listed" = true) (k4 : PySem.W.keepIn K (.ref f4) = true)
    (a5 : PySem.W.nsIn K mainGlobals "_law_drawn" = some (some (.ref f5)))
    (l5 : K.lookup f5 = some ⟨oc5, od5, .func (PySem.W.fnOf "_law_drawn" "_law_drawn" (defArgs s__law_drawn) (defBody s__law_drawn) (defScope s__law_drawn) .none kV5 dc5 pm5 an5 cd5 ct5), sl5⟩) (c5 : PySem.W.codeIn K cd5 "_law_drawn" = true) (k5 : PySem.W.keepIn K (.ref f5) = true)
    (a6 : PySem.W.nsIn K mainGlobals "_law_facts" = some (some (.ref f6)))
    (l6 : K.lookup f6 = some ⟨oc6, od6, .func (PySem.W.fnOf "_law_facts" "_law_facts" (defArgs s__law_facts) (defBody s__law_facts) (defScope s__law_facts) .none kV6 dc6 pm6 an6 cd6 ct6), sl6⟩) (c6 : PySem.W.codeIn K cd6 "_law_facts" = true) (k6 : PySem.W.keepIn K (.ref f6) = true)
    (a7 : PySem.W.nsIn K mainGlobals "_law_set" = some (some (.ref f7)))
    (l7 : K.lookup f7 = some ⟨oc7, od7, .func (PySem.W.fnOf "_law_set" "_law_set" (defArgs s__law_set) (defBody s__law_set) (defScope s__law_set) .none kV7 dc7 pm7 an7 cd7 ct7), sl7⟩) (c7 : PySem.W.codeIn K cd7 "_law_set" = true) (k7 : PySem.W.keepIn K (.ref f7) = true)
    (a8 : PySem.W.findIn K (.ref AHave) "leaning" = some (some (.ref f8)))
    (l8 : K.lookup f8 = some ⟨oc8, od8, .func (PySem.W.fnOf "leaning" "Have.leaning" (defArgs s_Have_leaning) (defBody s_Have_leaning) (defScope s_Have_leaning) .none kV8 dc8 pm8 an8 cd8 ct8), sl8⟩) (c8 : PySem.W.codeIn K cd8 "Have.leaning" = true) (k8 : PySem.W.keepIn K (.ref f8) = true)
    (a9 : PySem.W.findIn K (.ref ALack) "leaning" = some (some (.ref f9)))
    (l9 : K.lookup f9 = some ⟨oc9, od9, .func (PySem.W.fnOf "leaning" "Lack.leaning" (defArgs s_Lack_leaning) (defBody s_Lack_leaning) (defScope s_Lack_leaning) .none kV9 dc9 pm9 an9 cd9 ct9), sl9⟩) (c9 : PySem.W.codeIn K cd9 "Lack.leaning" = true) (k9 : PySem.W.keepIn K (.ref f9) = true)
    (a10 : PySem.W.findIn K (.ref ASome) "leaning" = some (some (.ref f10)))
    (l10 : K.lookup f10 = some ⟨oc10, od10, .func (PySem.W.fnOf "leaning" "Some.leaning" (defArgs s_Some_leaning) (defBody s_Some_leaning) (defScope s_Some_leaning) .none kV10 dc10 pm10 an10 cd10 ct10), sl10⟩) (c10 : PySem.W.codeIn K cd10 "Some.leaning" = true) (k10 : PySem.W.keepIn K (.ref f10) = true)
    (a11 : PySem.W.findIn K (.ref ALead) "leaning" = some (some (.ref f11)))
    (l11 : K.lookup f11 = some ⟨oc11, od11, .func (PySem.W.fnOf "leaning" "Lead.leaning" (defArgs s_Lead_leaning) (defBody s_Lead_leaning) (defScope s_Lead_leaning) .none kV11 dc11 pm11 an11 cd11 ct11), sl11⟩) (c11 : PySem.W.codeIn K cd11 "Lead.leaning" = true) (k11 : PySem.W.keepIn K (.ref f11) = true)
    (a12 : PySem.W.findIn K (.ref ALead) "__init__" = some (some (.ref f12)))
    (l12 : K.lookup f12 = some ⟨oc12, od12, .func (PySem.W.fnOf "__init__" "Lead.__init__" (defArgs s_Lead___init__) (defBody s_Lead___init__) (defScope s_Lead___init__) .none kV12 dc12 pm12 an12 cd12 ct12), sl12⟩) (c12 : PySem.W.codeIn K cd12 "Lead.__init__" = true) (k12 : PySem.W.keepIn K (.ref f12) = true)
    (a13 : PySem.W.findIn K (.ref AHave) "__init__" = some (some (.ref f13)))
    (l13 : K.lookup f13 = some ⟨oc13, od13, .func (PySem.W.fnOf "__init__" "Have.__init__" (defArgs s_Have___init__) (defBody s_Have___init__) (defScope s_Have___init__) .none kV13 dc13 pm13 an13 cd13 ct13), sl13⟩) (c13 : PySem.W.codeIn K cd13 "Have.__init__" = true) (k13 : PySem.W.keepIn K (.ref f13) = true)
    (a14 : PySem.W.findIn K (.ref ALack) "__init__" = some (some (.ref f14)))
    (l14 : K.lookup f14 = some ⟨oc14, od14, .func (PySem.W.fnOf "__init__" "Lack.__init__" (defArgs s_Lack___init__) (defBody s_Lack___init__) (defScope s_Lack___init__) .none kV14 dc14 pm14 an14 cd14 ct14), sl14⟩) (c14 : PySem.W.codeIn K cd14 "Lack.__init__" = true) (k14 : PySem.W.keepIn K (.ref f14) = true)
    (a15 : PySem.W.findIn K (.ref ASome) "__init__" = some (some (.ref f15)))
    (l15 : K.lookup f15 = some ⟨oc15, od15, .func (PySem.W.fnOf "__init__" "Some.__init__" (defArgs s_Some___init__) (defBody s_Some___init__) (defScope s_Some___init__) .none kV15 dc15 pm15 an15 cd15 ct15), sl15⟩) (c15 : PySem.W.codeIn K cd15 "Some.__init__" = true) (k15 : PySem.W.keepIn K (.ref f15) = true)
    (a16 : PySem.W.nsIn K mainGlobals "_law_made" = some (some (.ref f16)))
    (l16 : K.lookup f16 = some ⟨oc16, od16, .func (PySem.W.fnOf "_law_made" "_law_made" (defArgs s__law_made) (defBody s__law_made) (defScope s__law_made) .none kV16 dc16 pm16 an16 cd16 ct16), sl16⟩) (c16 : PySem.W.codeIn K cd16 "_law_made" = true) (k16 : PySem.W.keepIn K (.ref f16) = true)
    (a17 : PySem.W.nsIn K mainGlobals "_law_due" = some (some (.ref f17)))
    (l17 : K.lookup f17 = some ⟨oc17, od17, .func (PySem.W.fnOf "_law_due" "_law_due" (defArgs s__law_due) (defBody s__law_due) (defScope s__law_due) .none kV17 dc17 pm17 an17 cd17 ct17), sl17⟩) (c17 : PySem.W.codeIn K cd17 "_law_due" = true) (k17 : PySem.W.keepIn K (.ref f17) = true)
    (a18 : PySem.W.nsIn K mainGlobals "is_in" = some (some (.ref f18)))
    (l18 : K.lookup f18 = some ⟨oc18, od18, .func (PySem.W.fnOf "is_in" "is_in" (defArgs s_is_in) (defBody s_is_in) (defScope s_is_in) .none kV18 dc18 pm18 an18 cd18 ct18), sl18⟩) (c18 : PySem.W.codeIn K cd18 "is_in" = true) (k18 : PySem.W.keepIn K (.ref f18) = true)
    (a19 : PySem.W.findIn K (.ref AHave) "carried" = some (some (.ref f19)))
    (l19 : K.lookup f19 = some ⟨oc19, od19, .func (PySem.W.fnOf "carried" "Have.carried" (defArgs s_Have_carried) (defBody s_Have_carried) (defScope s_Have_carried) .none kV19 dc19 pm19 an19 cd19 ct19), sl19⟩) (c19 : PySem.W.codeIn K cd19 "Have.carried" = true) (k19 : PySem.W.keepIn K (.ref f19) = true)
    (a20 : PySem.W.findIn K (.ref ALack) "carried" = some (some (.ref f20)))
    (l20 : K.lookup f20 = some ⟨oc20, od20, .func (PySem.W.fnOf "carried" "Lack.carried" (defArgs s_Lack_carried) (defBody s_Lack_carried) (defScope s_Lack_carried) .none kV20 dc20 pm20 an20 cd20 ct20), sl20⟩) (c20 : PySem.W.codeIn K cd20 "Lack.carried" = true) (k20 : PySem.W.keepIn K (.ref f20) = true)
    (a21 : PySem.W.findIn K (.ref ASome) "carried" = some (some (.ref f21)))
    (l21 : K.lookup f21 = some ⟨oc21, od21, .func (PySem.W.fnOf "carried" "Some.carried" (defArgs s_Some_carried) (defBody s_Some_carried) (defScope s_Some_carried) .none kV21 dc21 pm21 an21 cd21 ct21), sl21⟩) (c21 : PySem.W.codeIn K cd21 "Some.carried" = true) (k21 : PySem.W.keepIn K (.ref f21) = true)
    (a22 : PySem.W.findIn K (.ref ALead) "carried" = some (some (.ref f22)))
    (l22 : K.lookup f22 = some ⟨oc22, od22, .func (PySem.W.fnOf "carried" "Lead.carried" (defArgs s_Lead_carried) (defBody s_Lead_carried) (defScope s_Lead_carried) .none kV22 dc22 pm22 an22 cd22 ct22), sl22⟩) (c22 : PySem.W.codeIn K cd22 "Lead.carried" = true) (k22 : PySem.W.keepIn K (.ref f22) = true)
    (a23 : PySem.W.findIn K (.ref AHave) "blocked" = some (some (.ref f23)))
    (l23 : K.lookup f23 = some ⟨oc23, od23, .func (PySem.W.fnOf "blocked" "Have.blocked" (defArgs s_Have_blocked) (defBody s_Have_blocked) (defScope s_Have_blocked) .none kV23 dc23 pm23 an23 cd23 ct23), sl23⟩) (c23 : PySem.W.codeIn K cd23 "Have.blocked" = true) (k23 : PySem.W.keepIn K (.ref f23) = true)
    (a24 : PySem.W.findIn K (.ref ALack) "blocked" = some (some (.ref f24)))
    (l24 : K.lookup f24 = some ⟨oc24, od24, .func (PySem.W.fnOf "blocked" "Lack.blocked" (defArgs s_Lack_blocked) (defBody s_Lack_blocked) (defScope s_Lack_blocked) .none kV24 dc24 pm24 an24 cd24 ct24), sl24⟩) (c24 : PySem.W.codeIn K cd24 "Lack.blocked" = true) (k24 : PySem.W.keepIn K (.ref f24) = true)
    (a25 : PySem.W.findIn K (.ref ASome) "blocked" = some (some (.ref f25)))
    (l25 : K.lookup f25 = some ⟨oc25, od25, .func (PySem.W.fnOf "blocked" "Some.blocked" (defArgs s_Some_blocked) (defBody s_Some_blocked) (defScope s_Some_blocked) .none kV25 dc25 pm25 an25 cd25 ct25), sl25⟩) (c25 : PySem.W.codeIn K cd25 "Some.blocked" = true) (k25 : PySem.W.keepIn K (.ref f25) = true)
    (a26 : PySem.W.findIn K (.ref ALead) "blocked" = some (some (.ref f26)))
    (l26 : K.lookup f26 = some ⟨oc26, od26, .func (PySem.W.fnOf "blocked" "Lead.blocked" (defArgs s_Lead_blocked) (defBody s_Lead_blocked) (defScope s_Lead_blocked) .none kV26 dc26 pm26 an26 cd26 ct26), sl26⟩) (c26 : PySem.W.codeIn K cd26 "Lead.blocked" = true) (k26 : PySem.W.keepIn K (.ref f26) = true)
    (a27 : PySem.W.findIn K (.ref AHave) "shown" = some (some (.ref f27)))
    (l27 : K.lookup f27 = some ⟨oc27, od27, .func (PySem.W.fnOf "shown" "Have.shown" (defArgs s_Have_shown) (defBody s_Have_shown) (defScope s_Have_shown) .none kV27 dc27 pm27 an27 cd27 ct27), sl27⟩) (c27 : PySem.W.codeIn K cd27 "Have.shown" = true) (k27 : PySem.W.keepIn K (.ref f27) = true)
    (a28 : PySem.W.findIn K (.ref ALack) "shown" = some (some (.ref f28)))
    (l28 : K.lookup f28 = some ⟨oc28, od28, .func (PySem.W.fnOf "shown" "Lack.shown" (defArgs s_Lack_shown) (defBody s_Lack_shown) (defScope s_Lack_shown) .none kV28 dc28 pm28 an28 cd28 ct28), sl28⟩) (c28 : PySem.W.codeIn K cd28 "Lack.shown" = true) (k28 : PySem.W.keepIn K (.ref f28) = true)
    (a29 : PySem.W.findIn K (.ref ASome) "shown" = some (some (.ref f29)))
    (l29 : K.lookup f29 = some ⟨oc29, od29, .func (PySem.W.fnOf "shown" "Some.shown" (defArgs s_Some_shown) (defBody s_Some_shown) (defScope s_Some_shown) .none kV29 dc29 pm29 an29 cd29 ct29), sl29⟩) (c29 : PySem.W.codeIn K cd29 "Some.shown" = true) (k29 : PySem.W.keepIn K (.ref f29) = true)
    (a30 : PySem.W.findIn K (.ref ALead) "shown" = some (some (.ref f30)))
    (l30 : K.lookup f30 = some ⟨oc30, od30, .func (PySem.W.fnOf "shown" "Lead.shown" (defArgs s_Lead_shown) (defBody s_Lead_shown) (defScope s_Lead_shown) .none kV30 dc30 pm30 an30 cd30 ct30), sl30⟩) (c30 : PySem.W.codeIn K cd30 "Lead.shown" = true) (k30 : PySem.W.keepIn K (.ref f30) = true)
    (a31 : PySem.W.nsIn K mainGlobals "_law_fields" = some (some (.ref f31)))
    (l31 : K.lookup f31 = some ⟨oc31, od31, .func (PySem.W.fnOf "_law_fields" "_law_fields" (defArgs s__law_fields) (defBody s__law_fields) (defScope s__law_fields) .none kV31 dc31 pm31 an31 cd31 ct31), sl31⟩) (c31 : PySem.W.codeIn K cd31 "_law_fields" = true) (k31 : PySem.W.keepIn K (.ref f31) = true)
    (a32 : PySem.W.nsIn K mainGlobals "_law_right" = some (some (.ref f32)))
    (l32 : K.lookup f32 = some ⟨oc32, od32, .func (PySem.W.fnOf "_law_right" "_law_right" (defArgs s__law_right) (defBody s__law_right) (defScope s__law_right) .none kV32 dc32 pm32 an32 cd32 ct32), sl32⟩) (c32 : PySem.W.codeIn K cd32 "_law_right" = true) (k32 : PySem.W.keepIn K (.ref f32) = true)
    (a33 : PySem.W.nsIn K mainGlobals "law" = some (some (.ref f33)))
    (l33 : K.lookup f33 = some ⟨oc33, od33, .func (PySem.W.fnOf "law" "law" (defArgs s_law) (defBody s_law) (defScope s_law) .none kV33 dc33 pm33 an33 cd33 ct33), sl33⟩) (c33 : PySem.W.codeIn K cd33 "law" = true) (k33 : PySem.W.keepIn K (.ref f33) = true)
    (isf13 : PySem.W.isFn K (.ref f13) = true)
    (isf23 : PySem.W.isFn K (.ref f23) = true)
    (isf19 : PySem.W.isFn K (.ref f19) = true)
    (isf8 : PySem.W.isFn K (.ref f8) = true)
    (isf27 : PySem.W.isFn K (.ref f27) = true)
    (isf14 : PySem.W.isFn K (.ref f14) = true)
    (isf24 : PySem.W.isFn K (.ref f24) = true)
    (isf20 : PySem.W.isFn K (.ref f20) = true)
    (isf9 : PySem.W.isFn K (.ref f9) = true)
    (isf28 : PySem.W.isFn K (.ref f28) = true)
    (isf12 : PySem.W.isFn K (.ref f12) = true)
    (isf26 : PySem.W.isFn K (.ref f26) = true)
    (isf22 : PySem.W.isFn K (.ref f22) = true)
    (isf11 : PySem.W.isFn K (.ref f11) = true)
    (isf30 : PySem.W.isFn K (.ref f30) = true)
    (isf15 : PySem.W.isFn K (.ref f15) = true)
    (isf25 : PySem.W.isFn K (.ref f25) = true)
    (isf21 : PySem.W.isFn K (.ref f21) = true)
    (isf10 : PySem.W.isFn K (.ref f10) = true)
    (isf29 : PySem.W.isFn K (.ref f29) = true)
    (pgHave : PySem.W.plainGet K AHave Str.empty = true) (hdHave : PySem.W.hasDictIn K AHave = true) (poHave : PySem.W.plainOver K AHave = true) (saHave : PySem.W.findIn K (.ref AHave) "__setattr__" = some (some (.builtin "object.__setattr__"))) (mkHave : PySem.W.makesIn K AHave = true) (kcHave : PySem.W.keepIn K (.ref AHave) = true)
    (caHave : PySem.W.findIn K (.ref AHave) "__class__" = some (some (.builtin "object.__class__"))) (mrHave : PySem.W.mroIn K AHave (.type "object") = some true)
    (pgLack : PySem.W.plainGet K ALack Str.empty = true) (hdLack : PySem.W.hasDictIn K ALack = true) (poLack : PySem.W.plainOver K ALack = true) (saLack : PySem.W.findIn K (.ref ALack) "__setattr__" = some (some (.builtin "object.__setattr__"))) (mkLack : PySem.W.makesIn K ALack = true) (kcLack : PySem.W.keepIn K (.ref ALack) = true)
    (caLack : PySem.W.findIn K (.ref ALack) "__class__" = some (some (.builtin "object.__class__"))) (mrLack : PySem.W.mroIn K ALack (.type "object") = some true)
    (pgSome : PySem.W.plainGet K ASome Str.empty = true) (hdSome : PySem.W.hasDictIn K ASome = true) (poSome : PySem.W.plainOver K ASome = true) (saSome : PySem.W.findIn K (.ref ASome) "__setattr__" = some (some (.builtin "object.__setattr__"))) (mkSome : PySem.W.makesIn K ASome = true) (kcSome : PySem.W.keepIn K (.ref ASome) = true)
    (caSome : PySem.W.findIn K (.ref ASome) "__class__" = some (some (.builtin "object.__class__"))) (mrSome : PySem.W.mroIn K ASome (.type "object") = some true)
    (pgLead : PySem.W.plainGet K ALead Str.empty = true) (hdLead : PySem.W.hasDictIn K ALead = true) (poLead : PySem.W.plainOver K ALead = true) (saLead : PySem.W.findIn K (.ref ALead) "__setattr__" = some (some (.builtin "object.__setattr__"))) (mkLead : PySem.W.makesIn K ALead = true) (kcLead : PySem.W.keepIn K (.ref ALead) = true)
    (caLead : PySem.W.findIn K (.ref ALead) "__class__" = some (some (.builtin "object.__class__"))) (mrLead : PySem.W.mroIn K ALead (.type "object") = some true)
    (pgCond : PySem.W.plainGet K ACond Str.empty = true) (hdCond : PySem.W.hasDictIn K ACond = true) (poCond : PySem.W.plainOver K ACond = true) (saCond : PySem.W.findIn K (.ref ACond) "__setattr__" = some (some (.builtin "object.__setattr__"))) (mkCond : PySem.W.makesIn K ACond = true) (kcCond : PySem.W.keepIn K (.ref ACond) = true)
    (caCond : PySem.W.findIn K (.ref ACond) "__class__" = some (some (.builtin "object.__class__"))) (mrCond : PySem.W.mroIn K ACond (.type "object") = some true)
    (cls1 : PySem.W.specialIn K (.builtin "object.__class__") "__get__" = some (some (.builtin "getset_descriptor.__get__"))) (cls2 : PySem.W.takesIn K (.builtin "object.__class__") = some true)
    (nHave_fact : PySem.W.findIn K (.ref AHave) "fact" = some none)
    (nLack_fact : PySem.W.findIn K (.ref ALack) "fact" = some none)
    (nLead_at : PySem.W.findIn K (.ref ALead) "at" = some none)
    (nLead_facts : PySem.W.findIn K (.ref ALead) "facts" = some none)
    (nSome_facts : PySem.W.findIn K (.ref ASome) "facts" = some none)
    (nSome_number : PySem.W.findIn K (.ref ASome) "number" = some none)
    (qHave_Cond : PySem.W.subIn K (.ref AHave) (.ref ACond) = some true)
    (qLack_Cond : PySem.W.subIn K (.ref ALack) (.ref ACond) = some true)
    (qLead_Cond : PySem.W.subIn K (.ref ALead) (.ref ACond) = some true)
    (qSome_Cond : PySem.W.subIn K (.ref ASome) (.ref ACond) = some true)
    (isCond : PySem.W.isClsIn K ACond = true) (tyCond : PySem.W.typeIn K (.ref ACond) = some (.type "type")) (sbCond : PySem.W.subIn K (.ref ACond) (.ref ACond) = some true)
    (z_bool : PySem.W.nsIn K mainGlobals "bool" = some none)
    (z_divmod : PySem.W.nsIn K mainGlobals "divmod" = some none)
    (z_isinstance : PySem.W.nsIn K mainGlobals "isinstance" = some none)
    (z_len : PySem.W.nsIn K mainGlobals "len" = some none)
    (z_list : PySem.W.nsIn K mainGlobals "list" = some none)
    (z_max : PySem.W.nsIn K mainGlobals "max" = some none)
    (z_min : PySem.W.nsIn K mainGlobals "min" = some none)
    (z_range : PySem.W.nsIn K mainGlobals "range" = some none)
    (z_sum : PySem.W.nsIn K mainGlobals "sum" = some none)
    (z_tuple : PySem.W.nsIn K mainGlobals "tuple" = some none)
    : ∃ fd : FuncData, (∀ (s : Shared) (v : Value), BindsTo s fd ⟨[v], []⟩ [("_law_script", v)]) ∧ ∀ base : Heap, K.In base → base.Ns mainGlobals mg → FnOk l.prog w K mg base CX0 5 fa fd ["_law_script"] (SP K) := by
  have e := hfa.symm.trans (PySem.W.mg_of X G a33)
  cases e
  have F0 := fun_mk (x := "_law_cell") (qual := "_law_cell") (st := s__law_cell) l0 c0 k0
  have b0 := F0.binds (ps := ["_law_script", "_law_k"]) fun _ _ _ _ _ _ us hl => match us, hl with | [_, _], _ => rfl
  have F1 := fun_mk (x := "_law_mix") (qual := "_law_mix") (st := s__law_mix) l1 c1 k1
  have b1 := F1.binds (ps := ["_law_cell_here", "_law_k"]) fun _ _ _ _ _ _ us hl => match us, hl with | [_, _], _ => rfl
  have F2 := fun_mk (x := "_law_box") (qual := "_law_box") (st := s__law_box) l2 c2 k2
  have b2 := F2.binds (ps := ["_law_script", "_law_k"]) fun _ _ _ _ _ _ us hl => match us, hl with | [_, _], _ => rfl
  have F3 := fun_mk (x := "_law_take") (qual := "_law_take") (st := s__law_take) l3 c3 k3
  have b3 := F3.binds (ps := ["_law_box_here", "_law_many"]) fun _ _ _ _ _ _ us hl => match us, hl with | [_, _], _ => rfl
  have F4 := fun_mk (x := "_law_listed") (qual := "_law_listed") (st := s__law_listed) l4 c4 k4
  have b4 := F4.binds (ps := ["_law_box_here"]) fun _ _ _ _ _ _ us hl => match us, hl with | [_], _ => rfl
  have F5 := fun_mk (x := "_law_drawn") (qual := "_law_drawn") (st := s__law_drawn) l5 c5 k5
  have b5 := F5.binds (ps := ["_law_box_here"]) fun _ _ _ _ _ _ us hl => match us, hl with | [_], _ => rfl
  have F6 := fun_mk (x := "_law_facts") (qual := "_law_facts") (st := s__law_facts) l6 c6 k6
  have b6 := F6.binds (ps := ["_law_told"]) fun _ _ _ _ _ _ us hl => match us, hl with | [_], _ => rfl
  have F7 := fun_mk (x := "_law_set") (qual := "_law_set") (st := s__law_set) l7 c7 k7
  have b7 := F7.binds (ps := ["_law_box_here", "_law_told"]) fun _ _ _ _ _ _ us hl => match us, hl with | [_, _], _ => rfl
  have F8 := fun_mk (x := "leaning") (qual := "Have.leaning") (st := s_Have_leaning) l8 c8 k8
  have b8 := F8.binds (ps := ["self"]) fun _ _ _ _ _ _ us hl => match us, hl with | [_], _ => rfl
  have F9 := fun_mk (x := "leaning") (qual := "Lack.leaning") (st := s_Lack_leaning) l9 c9 k9
  have b9 := F9.binds (ps := ["self"]) fun _ _ _ _ _ _ us hl => match us, hl with | [_], _ => rfl
  have F10 := fun_mk (x := "leaning") (qual := "Some.leaning") (st := s_Some_leaning) l10 c10 k10
  have b10 := F10.binds (ps := ["self"]) fun _ _ _ _ _ _ us hl => match us, hl with | [_], _ => rfl
  have F11 := fun_mk (x := "leaning") (qual := "Lead.leaning") (st := s_Lead_leaning) l11 c11 k11
  have b11 := F11.binds (ps := ["self"]) fun _ _ _ _ _ _ us hl => match us, hl with | [_], _ => rfl
  have F12 := fun_mk (x := "__init__") (qual := "Lead.__init__") (st := s_Lead___init__) l12 c12 k12
  have b12 := F12.binds (ps := ["self", "facts", "at"]) fun _ _ _ _ _ _ us hl => match us, hl with | [_, _, _], _ => rfl
  have F13 := fun_mk (x := "__init__") (qual := "Have.__init__") (st := s_Have___init__) l13 c13 k13
  have b13 := F13.binds (ps := ["self", "fact"]) fun _ _ _ _ _ _ us hl => match us, hl with | [_, _], _ => rfl
  have F14 := fun_mk (x := "__init__") (qual := "Lack.__init__") (st := s_Lack___init__) l14 c14 k14
  have b14 := F14.binds (ps := ["self", "fact"]) fun _ _ _ _ _ _ us hl => match us, hl with | [_, _], _ => rfl
  have F15 := fun_mk (x := "__init__") (qual := "Some.__init__") (st := s_Some___init__) l15 c15 k15
  have b15 := F15.binds (ps := ["self", "number", "facts"]) fun _ _ _ _ _ _ us hl => match us, hl with | [_, _, _], _ => rfl
  have F16 := fun_mk (x := "_law_made") (qual := "_law_made") (st := s__law_made) l16 c16 k16
  have b16 := F16.binds (ps := ["_law_told"]) fun _ _ _ _ _ _ us hl => match us, hl with | [_], _ => rfl
  have F17 := fun_mk (x := "_law_due") (qual := "_law_due") (st := s__law_due) l17 c17 k17
  have b17 := F17.binds (ps := ["_law_told", "_law_have", "_law_may"]) fun _ _ _ _ _ _ us hl => match us, hl with | [_, _, _], _ => rfl
  have F18 := fun_mk (x := "is_in") (qual := "is_in") (st := s_is_in) l18 c18 k18
  have b18 := F18.binds (ps := ["fact", "facts"]) fun _ _ _ _ _ _ us hl => match us, hl with | [_, _], _ => rfl
  have F19 := fun_mk (x := "carried") (qual := "Have.carried") (st := s_Have_carried) l19 c19 k19
  have b19 := F19.binds (ps := ["self", "have", "may"]) fun _ _ _ _ _ _ us hl => match us, hl with | [_, _, _], _ => rfl
  have F20 := fun_mk (x := "carried") (qual := "Lack.carried") (st := s_Lack_carried) l20 c20 k20
  have b20 := F20.binds (ps := ["self", "have", "may"]) fun _ _ _ _ _ _ us hl => match us, hl with | [_, _, _], _ => rfl
  have F21 := fun_mk (x := "carried") (qual := "Some.carried") (st := s_Some_carried) l21 c21 k21
  have b21 := F21.binds (ps := ["self", "have", "may"]) fun _ _ _ _ _ _ us hl => match us, hl with | [_, _, _], _ => rfl
  have F22 := fun_mk (x := "carried") (qual := "Lead.carried") (st := s_Lead_carried) l22 c22 k22
  have b22 := F22.binds (ps := ["self", "have", "may"]) fun _ _ _ _ _ _ us hl => match us, hl with | [_, _, _], _ => rfl
  have F23 := fun_mk (x := "blocked") (qual := "Have.blocked") (st := s_Have_blocked) l23 c23 k23
  have b23 := F23.binds (ps := ["self", "have", "may"]) fun _ _ _ _ _ _ us hl => match us, hl with | [_, _, _], _ => rfl
  have F24 := fun_mk (x := "blocked") (qual := "Lack.blocked") (st := s_Lack_blocked) l24 c24 k24
  have b24 := F24.binds (ps := ["self", "have", "may"]) fun _ _ _ _ _ _ us hl => match us, hl with | [_, _, _], _ => rfl
  have F25 := fun_mk (x := "blocked") (qual := "Some.blocked") (st := s_Some_blocked) l25 c25 k25
  have b25 := F25.binds (ps := ["self", "have", "may"]) fun _ _ _ _ _ _ us hl => match us, hl with | [_, _, _], _ => rfl
  have F26 := fun_mk (x := "blocked") (qual := "Lead.blocked") (st := s_Lead_blocked) l26 c26 k26
  have b26 := F26.binds (ps := ["self", "have", "may"]) fun _ _ _ _ _ _ us hl => match us, hl with | [_, _, _], _ => rfl
  have F27 := fun_mk (x := "shown") (qual := "Have.shown") (st := s_Have_shown) l27 c27 k27
  have b27 := F27.binds (ps := ["self"]) fun _ _ _ _ _ _ us hl => match us, hl with | [_], _ => rfl
  have F28 := fun_mk (x := "shown") (qual := "Lack.shown") (st := s_Lack_shown) l28 c28 k28
  have b28 := F28.binds (ps := ["self"]) fun _ _ _ _ _ _ us hl => match us, hl with | [_], _ => rfl
  have F29 := fun_mk (x := "shown") (qual := "Some.shown") (st := s_Some_shown) l29 c29 k29
  have b29 := F29.binds (ps := ["self"]) fun _ _ _ _ _ _ us hl => match us, hl with | [_], _ => rfl
  have F30 := fun_mk (x := "shown") (qual := "Lead.shown") (st := s_Lead_shown) l30 c30 k30
  have b30 := F30.binds (ps := ["self"]) fun _ _ _ _ _ _ us hl => match us, hl with | [_], _ => rfl
  have F31 := fun_mk (x := "_law_fields") (qual := "_law_fields") (st := s__law_fields) l31 c31 k31
  have b31 := F31.binds (ps := ["_law_one", "_law_told"]) fun _ _ _ _ _ _ us hl => match us, hl with | [_, _], _ => rfl
  have F32 := fun_mk (x := "_law_right") (qual := "_law_right") (st := s__law_right) l32 c32 k32
  have b32 := F32.binds (ps := ["_law_told", "_law_have", "_law_may"]) fun _ _ _ _ _ _ us hl => match us, hl with | [_, _, _], _ => rfl
  have F33 := fun_mk (x := "law") (qual := "law") (st := s_law) l33 c33 k33
  have b33 := F33.binds (ps := ["_law_script"]) fun _ _ _ _ _ _ us hl => match us, hl with | [_], _ => rfl
  exact ⟨PySem.W.fnOf "law" "law" (defArgs s_law) (defBody s_law) (defScope s_law) .none kV33 dc33 pm33 an33 cd33 ct33, fun s v => .of_eq rfl, fun base _ _ => ok_end (T := ⟨_, _, ⟨F0, PySem.W.mg_of X G a0, b0⟩,
    _, _, ⟨F1, PySem.W.mg_of X G a1, b1⟩,
    _, _, ⟨F2, PySem.W.mg_of X G a2, b2⟩,
    _, _, ⟨F3, PySem.W.mg_of X G a3, b3⟩,
    _, _, ⟨F4, PySem.W.mg_of X G a4, b4⟩,
    _, _, ⟨F5, PySem.W.mg_of X G a5, b5⟩,
    _, _, ⟨F6, PySem.W.mg_of X G a6, b6⟩,
    _, _, ⟨F7, PySem.W.mg_of X G a7, b7⟩,
    _, _, F8, b8,
    _, _, F9, b9,
    _, _, F10, b10,
    _, _, F11, b11,
    _, _, F12, b12,
    _, _, F13, b13,
    _, _, F14, b14,
    _, _, F15, b15,
    _, _, ⟨F16, PySem.W.mg_of X G a16, b16⟩,
    _, _, ⟨F17, PySem.W.mg_of X G a17, b17⟩,
    _, _, ⟨F18, PySem.W.mg_of X G a18, b18⟩,
    _, _, F19, b19,
    _, _, F20, b20,
    _, _, F21, b21,
    _, _, F22, b22,
    _, _, F23, b23,
    _, _, F24, b24,
    _, _, F25, b25,
    _, _, F26, b26,
    _, _, F27, b27,
    _, _, F28, b28,
    _, _, F29, b29,
    _, _, F30, b30,
    _, _, ⟨F31, PySem.W.mg_of X G a31, b31⟩,
    _, _, ⟨F32, PySem.W.mg_of X G a32, b32⟩,
    _, _, ⟨F33, PySem.W.mg_of X G a33, b33⟩,
    _, ⟨PySem.W.mg_of X G gHave, ⟨pgHave, hdHave, poHave, saHave⟩, kcHave, mkHave, fun _ _ _ _ e => .ins e ⟨pgHave, hdHave, poHave, saHave⟩ caHave cls1 cls2 mrHave⟩,
    _, ⟨PySem.W.mg_of X G gLack, ⟨pgLack, hdLack, poLack, saLack⟩, kcLack, mkLack, fun _ _ _ _ e => .ins e ⟨pgLack, hdLack, poLack, saLack⟩ caLack cls1 cls2 mrLack⟩,
    _, ⟨PySem.W.mg_of X G gSome, ⟨pgSome, hdSome, poSome, saSome⟩, kcSome, mkSome, fun _ _ _ _ e => .ins e ⟨pgSome, hdSome, poSome, saSome⟩ caSome cls1 cls2 mrSome⟩,
    _, ⟨PySem.W.mg_of X G gLead, ⟨pgLead, hdLead, poLead, saLead⟩, kcLead, mkLead, fun _ _ _ _ e => .ins e ⟨pgLead, hdLead, poLead, saLead⟩ caLead cls1 cls2 mrLead⟩,
    _, ⟨PySem.W.mg_of X G gCond, ⟨pgCond, hdCond, poCond, saCond⟩, kcCond, mkCond, fun _ _ _ _ e => .ins e ⟨pgCond, hdCond, poCond, saCond⟩ caCond cls1 cls2 mrCond⟩,
    a13, isf13,
    a14, isf14,
    a12, isf12,
    a15, isf15,
    nHave_fact,
    nLack_fact,
    nLead_at,
    nLead_facts,
    nSome_facts,
    nSome_number,
    ⟨a23, isf23, k23⟩,
    ⟨a19, isf19, k19⟩,
    ⟨a8, isf8, k8⟩,
    ⟨a27, isf27, k27⟩,
    ⟨a24, isf24, k24⟩,
    ⟨a20, isf20, k20⟩,
    ⟨a9, isf9, k9⟩,
    ⟨a28, isf28, k28⟩,
    ⟨a26, isf26, k26⟩,
    ⟨a22, isf22, k22⟩,
    ⟨a11, isf11, k11⟩,
    ⟨a30, isf30, k30⟩,
    ⟨a25, isf25, k25⟩,
    ⟨a21, isf21, k21⟩,
    ⟨a10, isf10, k10⟩,
    ⟨a29, isf29, k29⟩,
    kit_sub isCond tyCond qHave_Cond sbCond,
    kit_sub isCond tyCond qLack_Cond sbCond,
    kit_sub isCond tyCond qLead_Cond sbCond,
    kit_sub isCond tyCond qSome_Cond sbCond,
    PySem.W.mg_none_of X G z_bool,
    PySem.W.mg_none_of X G z_divmod,
    PySem.W.mg_none_of X G z_isinstance,
    PySem.W.mg_none_of X G z_len,
    PySem.W.mg_none_of X G z_list,
    PySem.W.mg_none_of X G z_max,
    PySem.W.mg_none_of X G z_min,
    PySem.W.mg_none_of X G z_range,
    PySem.W.mg_none_of X G z_sum,
    PySem.W.mg_none_of X G z_tuple⟩)⟩
end K11
open PySem PySem.W PyProof.Rows
set_option maxHeartbeats 0 in
theorem PySem.Challenge.cw_notring_k11_conds_by_two_sets_holds : PySem.Challenge.rw_notring_k11_conds_by_two_sets.Holds := by
  w_on; o_law; k_head; (case hw => w_witness2)
  k_fill
  refine L2.walk_of (l := PySem.Challenge.rw_notring_k11_conds_by_two_sets) (n := 63) (k := 5) (x := "_law_script") (CX := fun _ => L2.CX0) (sp := fun w => K11.SP _) rfl (by decide) rfl ⟨rfl, by decide, by decide⟩ (fun w h Y => PySem.W.kIn_of Y) ?F (fun _ _ a ns hl _ hS => ⟨a, ns, rfl, hS, hl, fun _ => rfl⟩) (fun _ _ _ _ _ h => h)
  case F =>
    intro w mg fa h KX G hmg
    refine' K11.all_mk KX G hmg ?gHave ?gLack ?gSome ?gLead ?gCond ?a0 ?l0 ?c0 ?k0 ?a1 ?l1 ?c1 ?k1 ?a2 ?l2 ?c2 ?k2 ?a3 ?l3 ?c3 ?k3 ?a4 ?l4 ?c4 ?k4 ?a5 ?l5 ?c5 ?k5 ?a6 ?l6 ?c6 ?k6 ?a7 ?l7 ?c7 ?k7 ?a8 ?l8 ?c8 ?k8 ?a9 ?l9 ?c9 ?k9 ?a10 ?l10 ?c10 ?k10 ?a11 ?l11 ?c11 ?k11 ?a12 ?l12 ?c12 ?k12 ?a13 ?l13 ?c13 ?k13 ?a14 ?l14 ?c14 ?k14 ?a15 ?l15 ?c15 ?k15 ?a16 ?l16 ?c16 ?k16 ?a17 ?l17 ?c17 ?k17 ?a18 ?l18 ?c18 ?k18 ?a19 ?l19 ?c19 ?k19 ?a20 ?l20 ?c20 ?k20 ?a21 ?l21 ?c21 ?k21 ?a22 ?l22 ?c22 ?k22 ?a23 ?l23 ?c23 ?k23 ?a24 ?l24 ?c24 ?k24 ?a25 ?l25 ?c25 ?k25 ?a26 ?l26 ?c26 ?k26 ?a27 ?l27 ?c27 ?k27 ?a28 ?l28 ?c28 ?k28 ?a29 ?l29 ?c29 ?k29 ?a30 ?l30 ?c30 ?k30 ?a31 ?l31 ?c31 ?k31 ?a32 ?l32 ?c32 ?k32 ?a33 ?l33 ?c33 ?k33 ?isf13 ?isf23 ?isf19 ?isf8 ?isf27 ?isf14 ?isf24 ?isf20 ?isf9 ?isf28 ?isf12 ?isf26 ?isf22 ?isf11 ?isf30 ?isf15 ?isf25 ?isf21 ?isf10 ?isf29 ?pgHave ?hdHave ?poHave ?saHave ?mkHave ?kcHave ?caHave ?mrHave ?pgLack ?hdLack ?poLack ?saLack ?mkLack ?kcLack ?caLack ?mrLack ?pgSome ?hdSome ?poSome ?saSome ?mkSome ?kcSome ?caSome ?mrSome ?pgLead ?hdLead ?poLead ?saLead ?mkLead ?kcLead ?caLead ?mrLead ?pgCond ?hdCond ?poCond ?saCond ?mkCond ?kcCond ?caCond ?mrCond ?cls1 ?cls2 ?nHave_fact ?nLack_fact ?nLead_at ?nLead_facts ?nSome_facts ?nSome_number ?qHave_Cond ?qLack_Cond ?qLead_Cond ?qSome_Cond ?isCond ?tyCond ?sbCond ?z_bool ?z_divmod ?z_isinstance ?z_len ?z_list ?z_max ?z_min ?z_range ?z_sum ?z_tuple
    (case gHave => k_is); (case gLack => k_is); (case gSome => k_is); (case gLead => k_is); (case gCond => k_is); (case a0 => k_is); (case l0 => k_is); (case c0 => k_is); (case k0 => k_is); (case a1 => k_is); (case l1 => k_is); (case c1 => k_is); (case k1 => k_is); (case a2 => k_is); (case l2 => k_is); (case c2 => k_is); (case k2 => k_is); (case a3 => k_is); (case l3 => k_is); (case c3 => k_is); (case k3 => k_is); (case a4 => k_is); (case l4 => k_is); (case c4 => k_is); (case k4 => k_is); (case a5 => k_is); (case l5 => k_is); (case c5 => k_is); (case k5 => k_is); (case a6 => k_is); (case l6 => k_is); (case c6 => k_is); (case k6 => k_is); (case a7 => k_is); (case l7 => k_is); (case c7 => k_is); (case k7 => k_is); (case a8 => k_is); (case l8 => k_is); (case c8 => k_is); (case k8 => k_is); (case a9 => k_is); (case l9 => k_is); (case c9 => k_is); (case k9 => k_is); (case a10 => k_is); (case l10 => k_is); (case c10 => k_is); (case k10 => k_is); (case a11 => k_is); (case l11 => k_is); (case c11 => k_is); (case k11 => k_is); (case a12 => k_is); (case l12 => k_is); (case c12 => k_is); (case k12 => k_is); (case a13 => k_is); (case l13 => k_is); (case c13 => k_is); (case k13 => k_is); (case a14 => k_is); (case l14 => k_is); (case c14 => k_is); (case k14 => k_is); (case a15 => k_is); (case l15 => k_is); (case c15 => k_is); (case k15 => k_is); (case a16 => k_is); (case l16 => k_is); (case c16 => k_is); (case k16 => k_is); (case a17 => k_is); (case l17 => k_is); (case c17 => k_is); (case k17 => k_is); (case a18 => k_is); (case l18 => k_is); (case c18 => k_is); (case k18 => k_is); (case a19 => k_is); (case l19 => k_is); (case c19 => k_is); (case k19 => k_is); (case a20 => k_is); (case l20 => k_is); (case c20 => k_is); (case k20 => k_is); (case a21 => k_is); (case l21 => k_is); (case c21 => k_is); (case k21 => k_is); (case a22 => k_is); (case l22 => k_is); (case c22 => k_is); (case k22 => k_is); (case a23 => k_is); (case l23 => k_is); (case c23 => k_is); (case k23 => k_is); (case a24 => k_is); (case l24 => k_is); (case c24 => k_is); (case k24 => k_is); (case a25 => k_is); (case l25 => k_is); (case c25 => k_is); (case k25 => k_is); (case a26 => k_is); (case l26 => k_is); (case c26 => k_is); (case k26 => k_is); (case a27 => k_is); (case l27 => k_is); (case c27 => k_is); (case k27 => k_is); (case a28 => k_is); (case l28 => k_is); (case c28 => k_is); (case k28 => k_is); (case a29 => k_is); (case l29 => k_is); (case c29 => k_is); (case k29 => k_is); (case a30 => k_is); (case l30 => k_is); (case c30 => k_is); (case k30 => k_is); (case a31 => k_is); (case l31 => k_is); (case c31 => k_is); (case k31 => k_is); (case a32 => k_is); (case l32 => k_is); (case c32 => k_is); (case k32 => k_is); (case a33 => k_is); (case l33 => k_is); (case c33 => k_is); (case k33 => k_is); (case isf13 => k_is); (case isf23 => k_is); (case isf19 => k_is); (case isf8 => k_is); (case isf27 => k_is); (case isf14 => k_is); (case isf24 => k_is); (case isf20 => k_is); (case isf9 => k_is); (case isf28 => k_is); (case isf12 => k_is); (case isf26 => k_is); (case isf22 => k_is); (case isf11 => k_is); (case isf30 => k_is); (case isf15 => k_is); (case isf25 => k_is); (case isf21 => k_is); (case isf10 => k_is); (case isf29 => k_is); (case pgHave => k_is); (case hdHave => k_is); (case poHave => k_is); (case saHave => k_is); (case mkHave => k_is); (case kcHave => k_is); (case caHave => k_is); (case mrHave => k_is); (case pgLack => k_is); (case hdLack => k_is); (case poLack => k_is); (case saLack => k_is); (case mkLack => k_is); (case kcLack => k_is); (case caLack => k_is); (case mrLack => k_is); (case pgSome => k_is); (case hdSome => k_is); (case poSome => k_is); (case saSome => k_is); (case mkSome => k_is); (case kcSome => k_is); (case caSome => k_is); (case mrSome => k_is); (case pgLead => k_is); (case hdLead => k_is); (case poLead => k_is); (case saLead => k_is); (case mkLead => k_is); (case kcLead => k_is); (case caLead => k_is); (case mrLead => k_is); (case pgCond => k_is); (case hdCond => k_is); (case poCond => k_is); (case saCond => k_is); (case mkCond => k_is); (case kcCond => k_is); (case caCond => k_is); (case mrCond => k_is); (case cls1 => k_is); (case cls2 => k_is); (case nHave_fact => k_is); (case nLack_fact => k_is); (case nLead_at => k_is); (case nLead_facts => k_is); (case nSome_facts => k_is); (case nSome_number => k_is); (case qHave_Cond => k_is); (case qLack_Cond => k_is); (case qLead_Cond => k_is); (case qSome_Cond => k_is); (case isCond => k_is); (case tyCond => k_is); (case sbCond => k_is); (case z_bool => k_is); (case z_divmod => k_is); (case z_isinstance => k_is); (case z_len => k_is); (case z_list => k_is); (case z_max => k_is); (case z_min => k_is); (case z_range => k_is); (case z_sum => k_is); (case z_tuple => k_is)
