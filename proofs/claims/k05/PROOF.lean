import PyProof.Rows.All
import Wide.All
import OpenK.AllK
import Wide.FinOn
import HandS.ForMost
import HandS.Defaults
import HandS.Walk
import HandS.Zip
import HandS.Style
import HandS.TupAny
import HandS.TupMul
import HandS.Flow
import HandS.IsInst
import KE.GoesMore
import KE.GoesEnum
import KE.SortData
import KE.SortLaws
import KE.KDictCopyH
import KE.KDictSum
import KE.KStateDown
import HandS.Head0
import HandS.Head1
import HandS.Head2
import HandS.HeadEnd
import HandS.HeadHook1
import HandS.HeadHook2
import PySem.Challenge.RW_handsights_k05_whole_words_counted_by_th
set_option Elab.async false
set_option linter.all false
set_option maxRecDepth 1000000
set_option maxHeartbeats 0
/-! PL1: deep data, the frozen part of the heap, the relation of a pure state and the abstract heap; readings by pure semantics. -/
namespace PL
open PySem PySem.Spec PyProof.Rows L2

/-- deep data -/
inductive D where
  | non | bl (b : Bool) | int (i : Int) | str (x : Str)
  | lst (xs : List D) | tup (xs : List D) | tuk (xs : List D) | dic (t : Nat) (es : List (D × D)) | ins (c : Str) (fs : List (Str × D)) | scr (ns : List Int)

def kD : Key → D
  | .inl i => .int i
  | .inr x => .str x

mutual
/-- a value stands for data, in an abstract heap -/
inductive Dn (K : PySem.W.Frag) (H : Hp) : V → D → Prop
  | non : Dn K H .non .non
  | bl (b : Bool) : Dn K H (.bl b) (.bl b)
  | int (i : Int) : Dn K H (.int i) (.int i)
  | str (x : Str) : Dn K H (.str x) (.str x)
  | lst {a : Addr} {xs : List V} {ds : List D} : H a = some (.lst xs) → DnL K H xs ds → Dn K H (.ref a) (.lst ds)
  | scr {a : Addr} {ns : List Int} : SqL K H a (ns.map V.int) → Dn K H (.ref a) (.scr ns)
  | tup {a : Addr} {xs : List V} {ds : List D} : H a = some (.tup xs) → DnL K H xs ds → Dn K H (.ref a) (.tup ds)
  | tuk {a : Addr} {xs : List V} {ds : List D} : SqT K H a xs → DnL K H xs ds → Dn K H (.ref a) (.tuk ds)
  | dk {a : Addr} {kvs : List (Key × V)} {es : List (D × D)} : H a = some (.dK kvs) → es.map (·.1) = kvs.map (fun p => kD p.1) → DnL K H (kvs.map (·.2)) (es.map (·.2)) → Dn K H (.ref a) (.dic 0 es)
  | dt {a : Addr} {kvs : List (List Key × V)} {es : List (D × D)} : H a = some (.dT kvs) → es.map (·.1) = kvs.map (fun p => .tup (p.1.map kD)) → DnL K H (kvs.map (·.2)) (es.map (·.2)) → Dn K H (.ref a) (.dic 1 es)
inductive DnL (K : PySem.W.Frag) (H : Hp) : List V → List D → Prop
  | nil : DnL K H [] []
  | cons {v : V} {vs : List V} {d : D} {ds : List D} : Dn K H v d → DnL K H vs ds → DnL K H (v :: vs) (d :: ds)
end

section
variable {K : PySem.W.Frag} {H H' : Hp}
theorem Same.seqT {a : Addr} {xs : List V} (e : Same H H') (h : SqT K H a xs) : SqT K H' a xs := by
  rcases h with (h | ⟨o, h⟩) | h
  · exact .inl (.inl (e _ _ h))
  · exact .inl (.inr ⟨o, e _ _ h⟩)
  · exact .inr h
mutual
theorem Dn.mono (s : Same H H') : ∀ {v : V} {d : D}, Dn K H v d → Dn K H' v d
  | _, _, .non => .non
  | _, _, .bl b => .bl b
  | _, _, .int b => .int b
  | _, _, .str b => .str b
  | _, _, .lst h r => .lst (s _ _ h) (r.mono s)
  | _, _, .scr h => .scr (L2.Same.seq s h)
  | _, _, .tup h r => .tup (s _ _ h) (r.mono s)
  | _, _, .tuk h r => .tuk (Same.seqT s h) (r.mono s)
  | _, _, .dk h e r => .dk (s _ _ h) e (r.mono s)
  | _, _, .dt h e r => .dt (s _ _ h) e (r.mono s)
theorem DnL.mono (s : Same H H') : ∀ {vs : List V} {ds : List D}, DnL K H vs ds → DnL K H' vs ds
  | _, _, .nil => .nil
  | _, _, .cons h r => .cons (h.mono s) (r.mono s)
end
theorem DnL.length : ∀ {vs : List V} {ds : List D}, DnL K H vs ds → vs.length = ds.length
  | _, _, .nil => rfl
  | _, _, .cons _ r => by rw [List.length_cons, List.length_cons, r.length]
theorem DnL.append : ∀ {vs ws : List V} {ds es : List D}, DnL K H vs ds → DnL K H ws es → DnL K H (vs ++ ws) (ds ++ es)
  | _, _, _, _, .nil, h => h
  | _, _, _, _, .cons h r, g => .cons h (r.append g)
theorem DnL.get : ∀ {vs : List V} {ds : List D} {i : Nat} {d : D}, DnL K H vs ds → ds[i]? = some d → ∃ v, vs[i]? = some v ∧ Dn K H v d
  | _, _, 0, _, .cons h _, e => by simp at e; subst e; exact ⟨_, rfl, h⟩
  | _, _, i + 1, _, .cons _ r, e => by
    obtain ⟨v, h1, h2⟩ := r.get (i := i) (by simpa using e)
    exact ⟨v, by simpa using h1, h2⟩
theorem DnL.getV : ∀ {vs : List V} {ds : List D} {i : Nat} {v : V}, DnL K H vs ds → vs[i]? = some v → ∃ d, ds[i]? = some d ∧ Dn K H v d
  | _, _, 0, _, .cons h _, e => by simp at e; subst e; exact ⟨_, rfl, h⟩
  | _, _, i + 1, _, .cons _ r, e => by
    obtain ⟨v, h1, h2⟩ := r.getV (i := i) (by simpa using e)
    exact ⟨v, by simpa using h1, h2⟩
theorem DnL.set : ∀ {vs : List V} {ds : List D} {v : V} {d : D} (i : Nat), DnL K H vs ds → Dn K H v d → DnL K H (vs.set i v) (ds.set i d)
  | _, _, _, _, _, .nil, _ => .nil
  | _, _, _, _, 0, .cons _ r, h => .cons h r
  | _, _, _, _, i + 1, .cons g r, h => .cons g (r.set i h)
theorem DnL.drop : ∀ {vs : List V} {ds : List D} (n : Nat), DnL K H vs ds → DnL K H (vs.drop n) (ds.drop n)
  | _, _, 0, h => h
  | _, _, _ + 1, .nil => .nil
  | _, _, n + 1, .cons _ r => r.drop n
theorem DnL.take : ∀ {vs : List V} {ds : List D} (n : Nat), DnL K H vs ds → DnL K H (vs.take n) (ds.take n)
  | _, _, 0, _ => .nil
  | _, _, _ + 1, .nil => .nil
  | _, _, n + 1, .cons h r => .cons h (r.take n)
theorem DnL.reverse : ∀ {vs : List V} {ds : List D}, DnL K H vs ds → DnL K H vs.reverse ds.reverse
  | _, _, .nil => .nil
  | _, _, .cons h r => by
    rw [List.reverse_cons, List.reverse_cons]
    exact r.reverse.append (.cons h .nil)
theorem DnL.eraseIdx : ∀ {vs : List V} {ds : List D} (i : Nat), DnL K H vs ds → DnL K H (vs.eraseIdx i) (ds.eraseIdx i)
  | _, _, _, .nil => .nil
  | _, _, 0, .cons _ r => r
  | _, _, i + 1, .cons g r => .cons g (r.eraseIdx i)
theorem DnL.dropLast {vs : List V} {ds : List D} (h : DnL K H vs ds) : DnL K H vs.dropLast ds.dropLast := by
  rw [List.dropLast_eq_take, List.dropLast_eq_take, h.length]
  exact h.take _
theorem DnL.zipLen {vs : List V} {ds : List D} (h : DnL K H vs ds) : vs.length = ds.length := h.length
theorem DnL.ints : ∀ {vs : List V} {ns : List Int}, DnL K H vs (ns.map D.int) → vs = ns.map V.int
  | _, [], h => by cases h; rfl
  | _, n :: ns, h => by
    cases h with
    | cons h r =>
      cases h
      rw [List.map_cons, r.ints]
theorem DnL.bls : ∀ {vs : List V} {ns : List Bool}, DnL K H vs (ns.map D.bl) → vs = ns.map V.bl
  | _, [], h => by cases h; rfl
  | _, n :: ns, h => by
    cases h with
    | cons h r =>
      cases h
      rw [List.map_cons, r.bls]
theorem DnL.strs : ∀ {vs : List V} {ns : List Str}, DnL K H vs (ns.map D.str) → vs = ns.map V.str
  | _, [], h => by cases h; rfl
  | _, n :: ns, h => by
    cases h with
    | cons h r =>
      cases h
      rw [List.map_cons, r.strs]
theorem DnL.ofInts : ∀ {ns : List Int}, DnL K H (ns.map V.int) (ns.map D.int)
  | [] => .nil
  | _ :: _ => .cons (.int _) DnL.ofInts
theorem DnL.replicate {v : V} {d : D} (h : Dn K H v d) : ∀ n : Nat, DnL K H (List.replicate n v) (List.replicate n d)
  | 0 => .nil
  | n + 1 => .cons h (DnL.replicate h n)
theorem DnL.rep {vs : List V} {ds : List D} (h : DnL K H vs ds) : ∀ n : Nat, DnL K H (List.replicate n vs).flatten (List.replicate n ds).flatten
  | 0 => .nil
  | n + 1 => by
    rw [List.replicate_succ, List.replicate_succ, List.flatten_cons, List.flatten_cons]
    exact h.append (h.rep n)
end

/-! ### the frozen part -/
def cut (S : List Addr) (H : Hp) : Hp := fun b => if b ∈ S then none else H b
section
variable {S S' : List Addr} {H H' : Hp} {p : Addr} {o : HO}
theorem cut_in (h : p ∈ S) : cut S H p = none := by unfold cut; rw [if_pos h]
theorem cut_out (h : p ∉ S) : cut S H p = H p := by unfold cut; rw [if_neg h]
theorem cut_some (h : cut S H p = some o) : p ∉ S ∧ H p = some o := by
  unfold cut at h
  by_cases hp : p ∈ S
  · rw [if_pos hp] at h; cases h
  · rw [if_neg hp] at h; exact ⟨hp, h⟩
theorem cut_same : Same (cut S H) H := fun _ _ h => (cut_some h).2
theorem seqTc {K : PySem.W.Frag} {xs : List V} (h : cut S H p = some (.tup xs)) : SqT K H p xs := .inl (.inl (cut_some h).2)
/-- fewer are cut out, the heap has grown -/
theorem cut_mono (hs : ∀ b, b ∈ S' → b ∈ S ∨ H b = none) (h : ∀ b o, b ∉ S → H b = some o → H' b = some o) : Same (cut S H) (cut S' H') := fun b o e => by
  obtain ⟨e1, e2⟩ := cut_some e
  rw [cut_out fun z => ?_]
  · exact h b o e1 e2
  · rcases hs b z with q | q
    · exact e1 q
    · rw [q] at e2; cases e2
theorem cut_upd_in (h : p ∈ S) : cut S (upd H p o) = cut S H := by
  funext b
  unfold cut upd
  by_cases hb : b ∈ S
  · rw [if_pos hb, if_pos hb]
  · rw [if_neg hb, if_neg hb, if_neg fun e => hb (by rw [e]; exact h)]
theorem cut_new (h : H p = none) : Same (cut S H) (cut S (upd H p o)) := cut_mono (fun _ q => .inl q) fun b o' _ e => by rw [upd_ne (ne_of_none e h)]; exact e
theorem cut_congr (h : ∀ b, b ∈ S ↔ b ∈ S') : cut S H = cut S' H := by
  funext b
  unfold cut
  by_cases hb : b ∈ S
  · rw [if_pos hb, if_pos ((h b).mp hb)]
  · rw [if_neg hb, if_neg fun z => hb ((h b).mpr z)]
end

/-! ### what stands in a cell that the frame owns -/
def Cell (H : Hp) (p : Addr) : Prop := ∃ o, H p = some o ∧ ∀ xs, o ≠ .tup xs
def Fr (S : List Addr) (H : Hp) : Prop := ∀ p ∈ S, Cell H p
theorem Cell.there {H : Hp} {p : Addr} (h : Cell H p) : H p ≠ none := by
  obtain ⟨o, h1, _⟩ := h
  rw [h1]; simp
theorem Cell.keep {H H' : Hp} {p : Addr} (h : Cell H p) (g : ∀ o, H p = some o → H' p = some o) : Cell H' p := by
  obtain ⟨o, h1, h2⟩ := h
  exact ⟨o, g _ h1, h2⟩
theorem Fr.out {S : List Addr} {H : Hp} {p : Addr} (hf : Fr S H) (hp : H p = none) : p ∉ S := fun z => (hf p z).there hp
theorem Fr.tup {S : List Addr} {H : Hp} {p : Addr} {xs : List V} (hf : Fr S H) (hp : H p = some (.tup xs)) : p ∉ S := fun z => by
  obtain ⟨o, h1, h2⟩ := hf p z
  rw [hp] at h1
  cases h1
  exact h2 _ rfl
theorem cell_upd {H : Hp} {p : Addr} {o : HO} (h : ∀ xs, o ≠ .tup xs) : Cell (upd H p o) p := ⟨o, upd_same, h⟩
inductive Own (K : PySem.W.Frag) (Hc H : Hp) (p : Addr) : D → Prop
  | lst {xs : List V} {ds : List D} : H p = some (.lst xs) → DnL K Hc xs ds → Own K Hc H p (.lst ds)
  | dk {kvs : List (Key × V)} {es : List (D × D)} : H p = some (.dK kvs) → es.map (·.1) = kvs.map (fun q => kD q.1) → DnL K Hc (kvs.map (·.2)) (es.map (·.2)) → Own K Hc H p (.dic 0 es)
  | dt {kvs : List (List Key × V)} {es : List (D × D)} : H p = some (.dT kvs) → es.map (·.1) = kvs.map (fun q => .tup (q.1.map kD)) → DnL K Hc (kvs.map (·.2)) (es.map (·.2)) → Own K Hc H p (.dic 1 es)
section
variable {K : PySem.W.Frag} {Hc Hc' H H' : Hp} {p : Addr} {d : D}
theorem Own.mono (h : Own K Hc H p d) (s : Same Hc Hc') (e : ∀ o, H p = some o → H' p = some o) : Own K Hc' H' p d := by
  cases h with
  | lst h r => exact .lst (e _ h) (r.mono s)
  | dk h z r => exact .dk (e _ h) z (r.mono s)
  | dt h z r => exact .dt (e _ h) z (r.mono s)
theorem Own.cell (h : Own K Hc H p d) : Cell H p := by
  cases h with
  | lst h r => exact ⟨_, h, fun _ z => by cases z⟩
  | dk h z r => exact ⟨_, h, fun _ z => by cases z⟩
  | dt h z r => exact ⟨_, h, fun _ z => by cases z⟩
theorem Own.there (h : Own K Hc H p d) : H p ≠ none := by
  cases h with
  | lst h r => rw [h]; simp
  | dk h z r => rw [h]; simp
  | dt h z r => rw [h]; simp
/-- frozen, it is data -/
theorem Own.dn (h : Own K Hc H p d) (s : Same Hc Hc') (e : ∀ o, H p = some o → Hc' p = some o) : Dn K Hc' (.ref p) d := by
  cases h with
  | lst h r => exact .lst (e _ h) (r.mono s)
  | dk h z r => exact .dk (e _ h) z (r.mono s)
  | dt h z r => exact .dt (e _ h) z (r.mono s)
end

/-! ### pure state and abstract heap -/
abbrev Env := List (Option D)
/-- the static shape: the slot that holds the io cell; the owned slots -/
structure Sh where
  J : Option Nat
  O : List Nat
/-- the io cell's address; the owned slots' -/
structure Ow where
  io : Option Addr
  A : List (Nat × Addr)
def Ow.S (w : Ow) (T : List Addr) : List Addr := w.io.toList ++ (w.A.map (·.2) ++ T)
structure Rel (K : PySem.W.Frag) (T : List Addr) (H0 : Hp) (s : Sh) (w : Ow) (env : Env) (iod : D) (σ : L2.St) (H : Hp) : Prop where
  len : env.length = σ.length
  sh : w.A.map (·.1) = s.O
  ndO : s.O.Nodup
  val : ∀ i d, i ∉ s.O → env[i]? = some (some d) → ∃ v, σ[i]? = some (some v) ∧ Dn K (cut (w.S T) H) v d
  own : ∀ i p, (i, p) ∈ w.A → σ[i]? = some (some (.ref p)) ∧ ∃ d, env[i]? = some (some d) ∧ Own K (cut (w.S T) H) H p d
  ioY : ∀ q, w.io = some q → Own K (cut (w.S T) H) H q iod ∧ ∃ i, s.J = some i ∧ σ[i]? = some (some (.ref q)) ∧ env[i]? = some none ∧ i ∉ s.O
  ioN : w.io = none → s.J = none
  nd : (w.S T).Nodup
  tal : ∀ t ∈ T, Cell H t
  base : ∀ b o, H0 b = some o → w.io ≠ some b → H b = some o
  fresh : ∀ i p, (i, p) ∈ w.A → H0 p = none

section
variable {K : PySem.W.Frag} {T : List Addr} {H0 H H' : Hp} {s : Sh} {w : Ow} {env : Env} {iod : D} {σ : L2.St} {p : Addr} {o : HO}
theorem Ow.mem_io {q : Addr} (h : w.io = some q) : q ∈ w.S T := by unfold Ow.S; rw [h]; simp
theorem Ow.mem_A {i : Nat} (h : (i, p) ∈ w.A) : p ∈ w.S T := by
  unfold Ow.S
  exact List.mem_append_right _ (List.mem_append_left _ (List.mem_map.mpr ⟨(i, p), h, rfl⟩))
theorem Ow.mem_T (h : p ∈ T) : p ∈ w.S T := by
  unfold Ow.S
  exact List.mem_append_right _ (List.mem_append_right _ h)
theorem Ow.mem_S (h : p ∈ w.S T) : w.io = some p ∨ (∃ i, (i, p) ∈ w.A) ∨ p ∈ T := by
  unfold Ow.S at h
  rcases List.mem_append.mp h with h | h
  · left
    cases e : w.io with
    | none => rw [e] at h; simp at h
    | some q => rw [e] at h; simp at h; rw [h]
  · rcases List.mem_append.mp h with h | h
    · obtain ⟨⟨i, q⟩, h1, h2⟩ := List.mem_map.mp h
      exact .inr (.inl ⟨i, by rw [← h2]; exact h1⟩)
    · exact .inr (.inr h)
/-- all that is cut out stands in the heap -/
theorem Rel.frS (R : Rel K T H0 s w env iod σ H) : Fr (w.S T) H := fun p h => by
  rcases Ow.mem_S h with h | ⟨i, h⟩ | h
  · exact (R.ioY p h).1.cell
  · exact (R.own i p h).2.choose_spec.2.cell
  · exact R.tal p h
theorem Rel.S_there (R : Rel K T H0 s w env iod σ H) (h : p ∈ w.S T) : H p ≠ none := (R.frS p h).there
theorem Rel.fresh_S (R : Rel K T H0 s w env iod σ H) (h : H p = none) : p ∉ w.S T := fun z => R.S_there z h
/-- the heap has grown outside of what is cut out; the owned cells are as they were -/
theorem Rel.grow (R : Rel K T H0 s w env iod σ H) (g : Same H H') : Rel K T H0 s w env iod σ H' where
  len := R.len
  sh := R.sh
  ndO := R.ndO
  val := fun i d hi e => by
    obtain ⟨v, h1, h2⟩ := R.val i d hi e
    exact ⟨v, h1, h2.mono (cut_mono (fun _ q => .inl q) fun b o _ e => g b o e)⟩
  own := fun i p hp => by
    obtain ⟨h1, d, h2, h3⟩ := R.own i p hp
    exact ⟨h1, d, h2, h3.mono (cut_mono (fun _ q => .inl q) fun b o _ e => g b o e) fun o e => g _ _ e⟩
  ioY := fun q hq => by
    obtain ⟨h3, r⟩ := R.ioY q hq
    exact ⟨h3.mono (cut_mono (fun _ q => .inl q) fun b o _ e => g b o e) fun o e => g _ _ e, r⟩
  ioN := R.ioN
  nd := R.nd
  tal := fun t ht => (R.tal t ht).keep fun o e => g _ _ e
  base := fun b o e n => g _ _ (R.base b o e n)
  fresh := R.fresh
theorem Rel.new (R : Rel K T H0 s w env iod σ H) (h : H p = none) : Rel K T H0 s w env iod σ (upd H p o) :=
  R.grow fun b o' e => by rw [upd_ne (ne_of_none e h)]; exact e
theorem same_new (h : H p = none) : Same H (upd H p o) := fun b o' e => by rw [upd_ne (ne_of_none e h)]; exact e
theorem cutS {S : List Addr} (g : Same H H') : Same (cut S H) (cut S H') := cut_mono (fun _ q => .inl q) fun b o _ e => g b o e
end

theorem Ow.S_cons {T : List Addr} {w : Ow} {p b : Addr} : b ∈ w.S (p :: T) ↔ b = p ∨ b ∈ w.S T := by
  unfold Ow.S
  simp only [List.mem_append, List.mem_cons]
  constructor
  · rintro (z | z | z | z)
    · exact .inr (.inl z)
    · exact .inr (.inr (.inl z))
    · exact .inl z
    · exact .inr (.inr (.inr z))
  · rintro (z | z | z | z)
    · exact .inr (.inr (.inl z))
    · exact .inl z
    · exact .inr (.inl z)
    · exact .inr (.inr (.inr z))
section
variable {K : PySem.W.Frag} {T : List Addr} {H0 H H' : Hp} {s : Sh} {w : Ow} {env : Env} {iod : D} {σ : L2.St} {p : Addr}
theorem Rel.none0 (R : Rel K T H0 s w env iod σ H) (h : H p = none) : H0 p = none := by
  cases q : H0 p with
  | none => rfl
  | some o =>
    by_cases hio : w.io = some p
    · exact absurd h (R.ioY p hio).1.there
    · rw [R.base p o q hio] at h; cases h
theorem cut_lay (g : Same H H') (hp : H p = none) : Same (cut (w.S T) H) (cut (w.S (p :: T)) H') :=
  cut_mono (fun b hb => by
    rcases Ow.S_cons.mp hb with z | z
    · exact .inr (by rw [z]; exact hp)
    · exact .inl z) fun b o _ e => g b o e
/-- a new object is laid and kept apart -/
theorem Rel.lay (R : Rel K T H0 s w env iod σ H) (g : Same H H') (hp : H p = none) (hp' : Cell H' p) : Rel K (p :: T) H0 s w env iod σ H' := by
  have R' := R.grow g
  have cs : Same (cut (w.S T) H) (cut (w.S (p :: T)) H') := cut_lay g hp
  have hpS := R.fresh_S hp
  refine ⟨R.len, R.sh, R.ndO, fun i d hi e => ?_, fun i q hq => ?_, fun q hq => ?_, R.ioN, ?_, fun t ht => ?_, R'.base, R.fresh⟩
  · obtain ⟨v, h1, h2⟩ := R.val i d hi e
    exact ⟨v, h1, h2.mono cs⟩
  · obtain ⟨h1, d, h2, h3⟩ := R.own i q hq
    exact ⟨h1, d, h2, h3.mono cs fun o e => g _ _ e⟩
  · obtain ⟨h3, r⟩ := R.ioY q hq
    exact ⟨h3.mono cs fun o e => g _ _ e, r⟩
  · have nd := R.nd
    unfold Ow.S at nd hpS ⊢
    obtain ⟨n1, n2, n3⟩ := List.nodup_append.mp nd
    obtain ⟨m1, m2, m3⟩ := List.nodup_append.mp n2
    have hpS1 : p ∉ w.io.toList := fun z => hpS (List.mem_append_left _ z)
    have hpS2 : p ∉ w.A.map (·.2) := fun z => hpS (List.mem_append_right _ (List.mem_append_left _ z))
    have hpS3 : p ∉ T := fun z => hpS (List.mem_append_right _ (List.mem_append_right _ z))
    refine List.nodup_append.mpr ⟨n1, List.nodup_append.mpr ⟨m1, List.nodup_cons.mpr ⟨hpS3, m2⟩, fun a ha b hb => ?_⟩, fun a ha b hb => ?_⟩
    · rcases List.mem_cons.mp hb with z | z
      · rw [z]; exact fun e => hpS2 (by rw [← e]; exact ha)
      · exact m3 a ha b z
    · rcases List.mem_append.mp hb with z | z
      · exact n3 a ha b (List.mem_append_left _ z)
      · rcases List.mem_cons.mp z with z | z
        · rw [z]; exact fun e => hpS1 (by rw [← e]; exact ha)
        · exact n3 a ha b (List.mem_append_right _ z)
  · rcases List.mem_cons.mp ht with z | z
    · rw [z]; exact hp'
    · exact R'.tal t z
/-- what was kept apart is frozen -/
theorem Rel.unlay (R : Rel K (p :: T) H0 s w env iod σ H) : Rel K T H0 s w env iod σ H ∧ p ∉ w.S T ∧ Same (cut (w.S (p :: T)) H) (cut (w.S T) H) := by
  have cs : Same (cut (w.S (p :: T)) H) (cut (w.S T) H) := cut_mono (fun b hb => .inl (Ow.S_cons.mpr (.inr hb))) fun _ _ _ e => e
  have nd := R.nd
  unfold Ow.S at nd
  obtain ⟨n1, n2, n3⟩ := List.nodup_append.mp nd
  obtain ⟨m1, m2, m3⟩ := List.nodup_append.mp n2
  obtain ⟨l1, l2⟩ := List.nodup_cons.mp m2
  refine ⟨⟨R.len, R.sh, R.ndO, fun i d hi e => ?_, fun i q hq => ?_, fun q hq => ?_, R.ioN, ?_, fun t ht => R.tal t (List.mem_cons_of_mem _ ht), R.base, R.fresh⟩, fun z => ?_, cs⟩
  · obtain ⟨v, h1, h2⟩ := R.val i d hi e
    exact ⟨v, h1, h2.mono cs⟩
  · obtain ⟨h1, d, h2, h3⟩ := R.own i q hq
    exact ⟨h1, d, h2, h3.mono cs fun o e => e⟩
  · obtain ⟨h3, r⟩ := R.ioY q hq
    exact ⟨h3.mono cs fun o e => e, r⟩
  · unfold Ow.S
    exact List.nodup_append.mpr ⟨n1, List.nodup_append.mpr ⟨m1, l2, fun a ha b hb => m3 a ha b (List.mem_cons_of_mem _ hb)⟩, fun a ha b hb => n3 a ha b (by
      rcases List.mem_append.mp hb with z | z
      · exact List.mem_append_left _ z
      · exact List.mem_append_right _ (List.mem_cons_of_mem _ z))⟩
  · rcases List.mem_append.mp z with z | z
    · exact n3 p z p (List.mem_append_right _ List.mem_cons_self) rfl
    · rcases List.mem_append.mp z with z | z
      · exact m3 p z p List.mem_cons_self rfl
      · exact l1 z
end

/-! ### pure semantics and its readings -/
abbrev XS := Env → D → Option (D × D)
abbrev XLS := Env → D → Option (List D × D)
abbrev BS := Env → D → Option (Bool × D)
inductive Fl where
  | nx | bk | ct | rt (d : D)
abbrev SS := Env → D → Option (Fl × Env × D)

/-- what an expression's end is given -/
def Post (K : PySem.W.Frag) (T : List Addr) (H0 : Hp) (s : Sh) (w : Ow) (env : Env) (iod : D) (σ : L2.St) (H H' : Hp) : Prop :=
  Rel K T H0 s w env iod σ H' ∧ Same (cut (w.S T) H) (cut (w.S T) H')
def tX (K : PySem.W.Frag) (s : Sh) (f : XS) : TE := fun σ H Q => ∃ T H0 w env iod d iod', Rel K T H0 s w env iod σ H ∧ f env iod = some (d, iod') ∧
  ∀ v H', Post K T H0 s w env iod' σ H H' → Dn K (cut (w.S T) H') v d → Q v H'
def tB (K : PySem.W.Frag) (s : Sh) (f : BS) : TT := fun σ H Q => ∃ T H0 w env iod d iod', Rel K T H0 s w env iod σ H ∧ f env iod = some (d, iod') ∧
  ∀ H', Post K T H0 s w env iod' σ H H' → Q d H'
def tXL (K : PySem.W.Frag) (s : Sh) (f : XLS) : TA := fun σ H Q => ∃ T H0 w env iod d iod', Rel K T H0 s w env iod σ H ∧ f env iod = some (d, iod') ∧
  ∀ v H', Post K T H0 s w env iod' σ H H' → DnL K (cut (w.S T) H') v d → Q v H'
/-- a new object, owned by nobody: its address was free, what it holds is frozen -/
def tN (K : PySem.W.Frag) (s : Sh) (f : XS) : TE := fun σ H Q => ∃ T H0 w env iod d iod', Rel K T H0 s w env iod σ H ∧ f env iod = some (d, iod') ∧
  ∀ p H', Rel K (p :: T) H0 s w env iod' σ H' → Same (cut (w.S T) H) (cut (w.S (p :: T)) H') → H0 p = none → Own K (cut (w.S (p :: T)) H') H' p d → Q (.ref p) H'
/-- the io cell stays; or it is made, new, where there was none -/
def IoOk (H0 : Hp) (w w' : Ow) : Prop := (w.io = none ∧ ∀ q, w'.io = some q → H0 q = none) ∨ w'.io = w.io
theorem IoOk.trans {H0 : Hp} {w w1 w2 : Ow} (a : IoOk H0 w w1) (b : IoOk H0 w1 w2) : IoOk H0 w w2 := by
  rcases a with ⟨z, y⟩ | z
  · rcases b with ⟨_, y2⟩ | z2
    · exact .inl ⟨z, y2⟩
    · exact .inl ⟨z, fun q hq => y q (z2 ▸ hq)⟩
  · rcases b with ⟨y1, y2⟩ | z2
    · exact .inl ⟨by rw [← z]; exact y1, y2⟩
    · exact .inr (z2.trans z)
def tS (K : PySem.W.Frag) (s s' sl : Sh) (f : SS) : TS := fun Z σ H => ∃ T H0 w env iod fl env' iod', Rel K T H0 s w env iod σ H ∧ f env iod = some (fl, env', iod') ∧
  ∀ w' σ' H', IoOk H0 w w' → Same (cut (w.S T) H) (cut (w'.S T) H') →
    (match fl with
    | .nx => Rel K T H0 s' w' env' iod' σ' H' → Z.nx σ' H'
    | .bk => Rel K T H0 sl w' env' iod' σ' H' → Z.bk σ' H'
    | .ct => Rel K T H0 sl w' env' iod' σ' H' → Z.ct σ' H'
    | .rt d => ∀ sr v, Rel K T H0 sr w' env' iod' σ' H' → Dn K (cut (w'.S T) H') v d → Z.rt v H')

abbrev SimX (X : Cx) (s : Sh) (e : Expr) (f : XS) : Prop := PE X e (tX X.K s f)
abbrev SimB (X : Cx) (s : Sh) (e : Expr) (f : BS) : Prop := PT X e (tB X.K s f)
abbrev SimL (X : Cx) (s : Sh) (es : List Expr) (f : XLS) : Prop := PA X es (tXL X.K s f)
abbrev SimN (X : Cx) (s : Sh) (e : Expr) (f : XS) : Prop := PE X e (tN X.K s f)
abbrev SimS (X : Cx) (s s' sl : Sh) (st : Stmt) (f : SS) : Prop := PS X st (tS X.K s s' sl f)
abbrev SimSs (X : Cx) (s s' sl : Sh) (st : List Stmt) (f : SS) : Prop := PSs X st (tS X.K s s' sl f)

section
variable {X : Cx} {e : Expr}
theorem PE_mono {t t' : TE} (h : PE X e t) (m : ∀ σ H Q, t' σ H Q → t σ H Q) : PE X e t' := ⟨fun pins s σ H Q I q => h.run pins s σ H Q I (m σ H Q q)⟩
theorem PT_mono {t t' : TT} (h : PT X e t) (m : ∀ σ H Q, t' σ H Q → t σ H Q) : PT X e t' := ⟨fun pins s σ H Q I q => h.run pins s σ H Q I (m σ H Q q)⟩
theorem PA_mono {es : List Expr} {t t' : TA} (h : PA X es t) (m : ∀ σ H Q, t' σ H Q → t σ H Q) : PA X es t' := ⟨fun pos pins s σ H Q I q => h.run pos pins s σ H Q I (m σ H Q q)⟩
theorem PS_mono {st : Stmt} {t t' : TS} (h : PS X st t) (m : ∀ Z σ H, t' Z σ H → t Z σ H) : PS X st t' := ⟨fun pins s σ H Z I q => h.run pins s σ H Z I (m Z σ H q)⟩
theorem PSs_mono {st : List Stmt} {t t' : TS} (h : PSs X st t) (m : ∀ Z σ H, t' Z σ H → t Z σ H) : PSs X st t' := ⟨fun pins s σ H Z I q => h.run pins s σ H Z I (m Z σ H q)⟩
end
section
variable {K : PySem.W.Frag} {T : List Addr} {H0 H H1 H2 : Hp} {s : Sh} {w : Ow} {env : Env} {iod iod1 iod2 : D} {σ : L2.St}
theorem Rel.post (R : Rel K T H0 s w env iod σ H) : Post K T H0 s w env iod σ H H := ⟨R, Same.refl _⟩
theorem Post.trans (a : Post K T H0 s w env iod1 σ H H1) (b : Post K T H0 s w env iod2 σ H1 H2) : Post K T H0 s w env iod2 σ H H2 := ⟨b.1, a.2.trans b.2⟩
theorem Post.new {p : Addr} {o : HO} (a : Post K T H0 s w env iod1 σ H H1) (h : H1 p = none) : Post K T H0 s w env iod1 σ H (upd H1 p o) := ⟨a.1.new h, a.2.trans (cut_new h)⟩
theorem Post.grow (a : Post K T H0 s w env iod1 σ H H1) (g : Same H1 H2) : Post K T H0 s w env iod1 σ H H2 := ⟨a.1.grow g, a.2.trans (cutS g)⟩
end
end PL

/-! PL2: expressions: pure semantics and rules. -/
namespace PL
open PySem PySem.Spec PyProof.Rows L2

section
variable {K : PySem.W.Frag} {T : List Addr} {H0 H H1 H2 : Hp} {s : Sh} {w : Ow} {env : Env} {iod iod1 iod2 : D} {σ : L2.St} {p : Addr}
theorem Post.none0 (a : Post K T H0 s w env iod1 σ H H1) (h : H1 p = none) : H p = none := by
  cases q : H p with
  | none => rfl
  | some o =>
    by_cases hp : p ∈ w.S T
    · exact absurd h (a.1.S_there hp)
    · have e := a.2 p o (by rw [cut_out hp]; exact q)
      rw [(cut_some e).2] at h
      cases h
/-- a new object, frozen at once -/
theorem lay_post {d : D} (R : Rel K (p :: T) H0 s w env iod1 σ H1) (cs : Same (cut (w.S T) H) (cut (w.S (p :: T)) H1)) (o : Own K (cut (w.S (p :: T)) H1) H1 p d) : Post K T H0 s w env iod1 σ H H1 ∧ Dn K (cut (w.S T) H1) (.ref p) d := by
  obtain ⟨R1, hp, c2⟩ := R.unlay
  exact ⟨⟨R1, cs.trans c2⟩, o.dn c2 fun o e => by rw [cut_out hp]; exact e⟩
end

/-! ### the context of a body or a block -/
/-- what the rules ask of a context -/
structure In (P : Program) (w : World) (K : PySem.W.Frag) (mg : Str → Option Value) (base : Heap) (k : Nat) (X : Cx) (N : List Str) (sc : Scope) (φ : Str → Bool) : Prop where
  hfn : X.fn = φ
  hN : X.N = N
  hs : X.env.scope = sc
  nd : N.Nodup
  calm : X.calm = true
  prog : X.prog = P
  w : X.w = w
  K : X.K = K
  mg : X.mg = mg
  base : X.base = base
  room : Room k X.A
  never : X.xe = fun _ _ => False

variable {X : Cx} {s : Sh} {N : List Str} {sc : Scope} {φ : Str → Bool} {P : Program} {w0 : World} {K : PySem.W.Frag} {mg : Str → Option Value} {base : Heap} {k : Nat}
theorem In.passes (I : In P w0 K mg base k X N sc φ) : PassesOwn (model X.prog X.w) X.A X.env X.xe := by rw [I.never]; exact PassesOwn.never
theorem In.gl {x : Str} (I : In P w0 K mg base k X N sc φ) (h : sc.names.lookup x = some .globalImplicit) : Gl X x := by
  have e : X.env.kindOf x = X.env.scope.names.lookup x := rfl
  unfold Gl
  rw [e, I.hs]
  exact h

/-! ### names, constants -/
def xVar (i : Nat) : XS := fun env io => match env[i]? with
  | some (some d) => some (d, io)
  | _ => none
def xC (d : D) : XS := fun _ io => some (d, io)
theorem x_var {i : Nat} {x : Str} {pos : Pos} (I : In P w0 K mg base k X N sc φ) (hN : N[i]? = some x) (hv : Vis sc x) (hi : i ∉ s.O) (hd : (x == ("__debug__" : Str)) = false := by decide) (hcd : (x == ("__classdict__" : Str)) = false := by decide) : SimX X s (.Name x pos) (xVar i) := by
  refine PE_mono (pe_var (i := i) (by rw [I.hN]; exact hN) (by rw [I.hs]; exact hv) hd hcd) fun σ H Q h => ?_
  obtain ⟨T, H0, w, env, iod, d, iod', R, e, q⟩ := h
  unfold xVar at e
  cases h1 : env[i]? with
  | none => rw [h1] at e; cases e
  | some o =>
    cases o with
    | none => rw [h1] at e; cases e
    | some d' =>
      rw [h1] at e
      cases e
      obtain ⟨v, h2, h3⟩ := R.val i d hi h1
      exact ⟨v, h2, q v H R.post h3⟩
theorem tC_sound {v : V} {d : D} (hd : ∀ H, Dn X.K H v d) : ∀ σ H Q, tX X.K s (xC d) σ H Q → tC v σ H Q := fun σ H Q h => by
  obtain ⟨T, H0, w, env, iod, d', iod', R, e, q⟩ := h
  cases e
  exact q v H R.post (hd _)
theorem x_int {i j pos} : SimX X s (.Constant (.int i) j pos) (xC (.int i)) := PE_mono pe_int (tC_sound fun _ => .int i)
theorem x_bl {b j pos} : SimX X s (.Constant (.bool b) j pos) (xC (.bl b)) := PE_mono pe_bl (tC_sound fun _ => .bl b)
theorem x_non {j pos} : SimX X s (.Constant .none j pos) (xC .non) := PE_mono pe_non (tC_sound fun _ => .non)
theorem x_str {z j pos} : SimX X s (.Constant (.str z) j pos) (xC (.str z)) := PE_mono pe_str (tC_sound fun _ => .str z)
/-- a module's constant that stands for data in every heap -/
theorem x_glob {x : Str} {u : Value} {v : V} {d : D} {pos : Pos} (hg : Gl X x) (hm : X.mg x = some u) (r : RelV v u) (hd : ∀ H, Dn X.K H v d) (hdb : (x == ("__debug__" : Str)) = false := by decide) : SimX X s (.Name x pos) (xC d) :=
  PE_mono (pe_glob hg hm r hdb) (tC_sound hd)

/-! ### operators by values -/
def x2 (op : D → D → Option D) (f g : XS) : XS := fun env io => (f env io).bind fun a => (g env a.2).bind fun b => (op a.1 b.1).map fun c => (c, b.2)
def x1 (op : D → Option D) (f : XS) : XS := fun env io => (f env io).bind fun a => (op a.1).map fun c => (c, a.2)
/-- a rule by values is sound for a pure operation -/
def R2Ok (K : PySem.W.Frag) (op : D → D → Option D) (r : R2) : Prop := ∀ {S : List Addr} {H : Hp} {x y : V} {a b c : D} {Q : VK}, Fr S H → Dn K (cut S H) x a → Dn K (cut S H) y b → op a b = some c →
  (∀ v H', Same H H' → Dn K (cut S H') v c → Q v H') → r x y H Q
def R1Ok (K : PySem.W.Frag) (op : D → Option D) (r : V → Hp → VK → Prop) : Prop := ∀ {S : List Addr} {H : Hp} {x : V} {a c : D} {Q : VK}, Fr S H → Dn K (cut S H) x a → op a = some c →
  (∀ v H', Same H H' → Dn K (cut S H') v c → Q v H') → r x H Q
theorem x2_inv {op : D → D → Option D} {f g : XS} {env : Env} {io : D} {c io' : D} (h : x2 op f g env io = some (c, io')) : ∃ a io1 b, f env io = some (a, io1) ∧ g env io1 = some (b, io') ∧ op a b = some c := by
  unfold x2 at h
  cases h1 : f env io with
  | none => rw [h1] at h; cases h
  | some a =>
    rw [h1, Option.bind_some] at h
    cases h2 : g env a.2 with
    | none => rw [h2] at h; cases h
    | some b =>
      rw [h2, Option.bind_some] at h
      cases h3 : op a.1 b.1 with
      | none => rw [h3] at h; cases h
      | some c' =>
        rw [h3, Option.map_some] at h
        cases h
        exact ⟨a.1, a.2, b.1, rfl, h2, h3⟩
theorem x1_inv {op : D → Option D} {f : XS} {env : Env} {io : D} {c io' : D} (h : x1 op f env io = some (c, io')) : ∃ a, f env io = some (a, io') ∧ op a = some c := by
  unfold x1 at h
  cases h1 : f env io with
  | none => rw [h1] at h; cases h
  | some a =>
    rw [h1, Option.bind_some] at h
    cases h3 : op a.1 with
    | none => rw [h3] at h; cases h
    | some c' =>
      rw [h3, Option.map_some] at h
      cases h
      exact ⟨a.1, rfl, h3⟩
theorem tOp_sound {K : PySem.W.Frag} {op : D → D → Option D} {r : R2} {f g : XS} (hk : R2Ok K op r) (σ : L2.St) (H : Hp) (Q : VK) (h : tX K s (x2 op f g) σ H Q) : tOp r (tX K s f) (tX K s g) σ H Q := by
  obtain ⟨T, H0, w, env, iod, c, iod', R, e, q⟩ := h
  obtain ⟨a, io1, b, e1, e2, e3⟩ := x2_inv e
  refine ⟨T, H0, w, env, iod, a, io1, R, e1, fun x H1 P1 d1 => ?_⟩
  refine ⟨T, H0, w, env, io1, b, iod', P1.1, e2, fun y H2 P2 d2 => ?_⟩
  refine hk P2.1.frS (d1.mono P2.2) d2 e3 fun v H' g d => ?_
  exact q v H' ((P1.trans P2).trans ⟨P2.1.grow g, cutS g⟩) d
theorem x_bin {o : Operator} {r : R2} {op : D → D → Option D} {a b : Expr} {f g : XS} {pos : Pos} (ho : OpR X (binaryOp o) r) (hk : R2Ok X.K op r) (ha : SimX X s a f) (hb : SimX X s b g) : SimX X s (.BinOp a o b pos) (x2 op f g) :=
  PE_mono (pe_op ho ha hb) (tOp_sound hk)
theorem x_cmp {o : CmpOp} {r : R2} {op : D → D → Option D} {a b : Expr} {f g : XS} {pos : Pos} (ho : OpR X (compareOp o) r) (hk : R2Ok X.K op r) (ha : SimX X s a f) (hb : SimX X s b g) (hm : behindInMarks o b = false) : SimX X s (.Compare a [o] [b] pos) (x2 op f g) :=
  PE_mono (pe_cmpR ho ha hb hm) (tOp_sound hk)
theorem x_un {o : UnaryOp} {r : V → Hp → VK → Prop} {op : D → Option D} {a : Expr} {f : XS} {pos : Pos} (ho : UnR X (unaryOp o) r) (hk : R1Ok X.K op r) (ha : SimX X s a f) : SimX X s (.UnaryOp o a pos) (x1 op f) :=
  PE_mono (pe_un ho ha) fun σ H Q h => by
    obtain ⟨T, H0, w, env, iod, c, iod', R, e, q⟩ := h
    obtain ⟨a, e1, e3⟩ := x1_inv e
    refine ⟨T, H0, w, env, iod, a, iod', R, e1, fun x H1 P1 d1 => ?_⟩
    exact hk P1.1.frS d1 e3 fun v H' g d => q v H' (P1.trans ⟨P1.1.grow g, cutS g⟩) d
theorem x_ix {r : R2} {op : D → D → Option D} {a b : Expr} {f g : XS} {pos : Pos} (hr : IxR X r) (hk : R2Ok X.K op r) (ha : SimX X s a f) (hb : SimX X s b g) (hs : PlainIx b) : SimX X s (.Subscript a b pos) (x2 op f g) :=
  PE_mono (pe_ix hr ha hb hs) (tOp_sound hk)

theorem R2Ok.or {K : PySem.W.Frag} {op op' : D → D → Option D} {r r' : R2} (h : R2Ok K op r) (h' : R2Ok K op' r') : R2Ok K (fun a b => (op a b).or (op' a b)) (fun x y H Q => r x y H Q ∨ r' x y H Q) := by
  intro S H x y a b c Q hf h1 h2 e q
  have e : (op a b).or (op' a b) = some c := e
  cases e1 : op a b with
  | some c' =>
    rw [e1] at e
    cases e
    exact .inl (h hf h1 h2 e1 q)
  | none =>
    rw [e1] at e
    exact .inr (h' hf h1 h2 e q)

/-! ### tests -/
def bX (f : XS) : BS := fun env io => (f env io).bind fun a => match a.1 with
  | .bl k => some (k, a.2)
  | _ => none
theorem bX_inv {f : XS} {env : Env} {io : D} {k : Bool} {io' : D} (h : bX f env io = some (k, io')) : f env io = some (.bl k, io') := by
  unfold bX at h
  cases h1 : f env io with
  | none => rw [h1] at h; cases h
  | some a =>
    rw [h1, Option.bind_some] at h
    obtain ⟨a1, a2⟩ := a
    cases a1 <;> cases h
    rfl
theorem tTest_sound {K : PySem.W.Frag} {f : XS} {t : TE} (ht : ∀ σ H Q, tX K s f σ H Q → t σ H Q) (σ : L2.St) (H : Hp) (Q : Bool → Hp → Prop) (h : tB K s (bX f) σ H Q) : t σ H fun x H' => ∃ k, x = .bl k ∧ Q k H' := by
  obtain ⟨T, H0, w, env, iod, k, iod', R, e, q⟩ := h
  refine ht _ _ _ ⟨T, H0, w, env, iod, _, iod', R, bX_inv e, fun v H' P d => ?_⟩
  cases d
  exact ⟨k, rfl, q H' P⟩
theorem b_cmp {o : CmpOp} {r : R2} {op : D → D → Option D} {a b : Expr} {f g : XS} {pos : Pos} (ho : OpR X (compareOp o) r) (hk : R2Ok X.K op r) (ha : SimX X s a f) (hb : SimX X s b g) (hm : behindInMarks o b = false) : SimB X s (.Compare a [o] [b] pos) (bX (x2 op f g)) :=
  PT_mono (pt_cmpR ho ha hb hm) (tTest_sound (tOp_sound hk))
/-- an expression whose value is a bool -/
theorem b_val {e : Expr} {f : XS} (h : SimX X s e f) (he : ∀ whole, isTrue e X.env whole = (do let v ← whole; standAt e.pos; holding [v] (truthy v)) := by intro _; rfl) : SimB X s e (bX f) :=
  PT_mono (pt_val h he) (tTest_sound fun _ _ _ z => z)
def bNot (f : BS) : BS := fun env io => (f env io).map fun a => (!a.1, a.2)
theorem b_not {a : Expr} {f : BS} {pos : Pos} (ha : SimB X s a f) : SimB X s (.UnaryOp .Not a pos) (bNot f) :=
  PT_mono (pt_not ha) fun σ H Q h => by
    obtain ⟨T, H0, w, env, iod, k, iod', R, e, q⟩ := h
    unfold bNot at e
    cases h1 : f env iod with
    | none => rw [h1] at e; cases e
    | some a =>
      rw [h1] at e
      cases e
      exact ⟨T, H0, w, env, iod, a.1, a.2, R, h1, q⟩
def bAnd (f g : BS) : BS := fun env io => (f env io).bind fun a => if a.1 then g env a.2 else some (false, a.2)
def bOr (f g : BS) : BS := fun env io => (f env io).bind fun a => if a.1 then some (true, a.2) else g env a.2
abbrev SimW (X : Cx) (s : Sh) (e : Expr) (f : BS) : Prop := PW X e (tB X.K s f)
theorem PW_mono {e : Expr} {t t' : TT} (h : PW X e t) (m : ∀ σ H Q, t' σ H Q → t σ H Q) : PW X e t' := ⟨fun wh pins s σ H Q I q => h.run wh pins s σ H Q I (m σ H Q q)⟩
theorem w_and1 {a : Expr} {f : BS} {pos : Pos} (ha : SimB X s a f) : SimW X s (.BoolOp .And [a] pos) f := pw_and1 ha
theorem w_or1 {a : Expr} {f : BS} {pos : Pos} (ha : SimB X s a f) : SimW X s (.BoolOp .Or [a] pos) f := pw_or1 ha
theorem w_and {a b : Expr} {rest : List Expr} {f g : BS} {pos : Pos} (ha : SimB X s a f) (hb : SimW X s (.BoolOp .And (b :: rest) pos) g) : SimW X s (.BoolOp .And (a :: b :: rest) pos) (bAnd f g) :=
  PW_mono (pw_and ha hb) fun σ H Q h => by
    obtain ⟨T, H0, w, env, iod, k, iod', R, e, q⟩ := h
    unfold bAnd at e
    cases h1 : f env iod with
    | none => rw [h1] at e; cases e
    | some a =>
      rw [h1, Option.bind_some] at e
      refine ⟨T, H0, w, env, iod, a.1, a.2, R, h1, fun H1 P1 => ?_⟩
      cases ha : a.1 with
      | true =>
        rw [ha] at e
        rw [if_pos rfl]
        exact ⟨T, H0, w, env, a.2, k, iod', P1.1, e, fun H' P2 => q H' (P1.trans P2)⟩
      | false =>
        rw [ha] at e
        cases e
        rw [if_neg Bool.false_ne_true]
        exact q H1 P1
theorem w_or {a b : Expr} {rest : List Expr} {f g : BS} {pos : Pos} (ha : SimB X s a f) (hb : SimW X s (.BoolOp .Or (b :: rest) pos) g) : SimW X s (.BoolOp .Or (a :: b :: rest) pos) (bOr f g) :=
  PW_mono (pw_or ha hb) fun σ H Q h => by
    obtain ⟨T, H0, w, env, iod, k, iod', R, e, q⟩ := h
    unfold bOr at e
    cases h1 : f env iod with
    | none => rw [h1] at e; cases e
    | some a =>
      rw [h1, Option.bind_some] at e
      refine ⟨T, H0, w, env, iod, a.1, a.2, R, h1, fun H1 P1 => ?_⟩
      cases ha : a.1 with
      | false =>
        rw [ha] at e
        rw [if_neg Bool.false_ne_true]
        exact ⟨T, H0, w, env, a.2, k, iod', P1.1, e, fun H' P2 => q H' (P1.trans P2)⟩
      | true =>
        rw [ha] at e
        cases e
        rw [if_pos rfl]
        exact q H1 P1
theorem b_bool {op : BoolOp} {es : List Expr} {f : BS} {pos : Pos} (h : SimW X s (.BoolOp op es pos) f) : SimB X s (.BoolOp op es pos) f := h.pt
/-- and, or as values: bools -/
def xAnd (f g : XS) : XS := fun env io => (bX f env io).bind fun a => if a.1 then g env a.2 else some (.bl false, a.2)
def xOr (f g : XS) : XS := fun env io => (bX f env io).bind fun a => if a.1 then some (.bl true, a.2) else g env a.2
def xNot (f : XS) : XS := fun env io => (bX f env io).map fun a => (.bl (!a.1), a.2)
theorem x_one {op : BoolOp} {a : Expr} {f : XS} {pos : Pos} (h : SimX X s a f) : SimX X s (.BoolOp op [a] pos) f := pe_one h
theorem x_and {a b : Expr} {rest : List Expr} {f g : XS} {pos : Pos} (ha : SimX X s a f) (hb : SimX X s (.BoolOp .And (b :: rest) pos) g) : SimX X s (.BoolOp .And (a :: b :: rest) pos) (xAnd f g) :=
  PE_mono (pe_and ha hb) fun σ H Q h => by
    obtain ⟨T, H0, w, env, iod, k, iod', R, e, q⟩ := h
    unfold xAnd at e
    cases h1 : bX f env iod with
    | none => rw [h1] at e; cases e
    | some a =>
      rw [h1, Option.bind_some] at e
      refine ⟨T, H0, w, env, iod, _, a.2, R, bX_inv h1, fun v H1 P1 d => ?_⟩
      cases d
      refine ⟨a.1, rfl, ?_⟩
      cases ha : a.1 with
      | true =>
        rw [ha] at e
        rw [if_pos rfl]
        exact ⟨T, H0, w, env, a.2, k, iod', P1.1, e, fun v H' P2 => q v H' (P1.trans P2)⟩
      | false =>
        rw [ha] at e
        cases e
        rw [if_neg Bool.false_ne_true]
        exact q _ H1 P1 (.bl false)
theorem x_or {a b : Expr} {rest : List Expr} {f g : XS} {pos : Pos} (ha : SimX X s a f) (hb : SimX X s (.BoolOp .Or (b :: rest) pos) g) : SimX X s (.BoolOp .Or (a :: b :: rest) pos) (xOr f g) :=
  PE_mono (pe_or ha hb) fun σ H Q h => by
    obtain ⟨T, H0, w, env, iod, k, iod', R, e, q⟩ := h
    unfold xOr at e
    cases h1 : bX f env iod with
    | none => rw [h1] at e; cases e
    | some a =>
      rw [h1, Option.bind_some] at e
      refine ⟨T, H0, w, env, iod, _, a.2, R, bX_inv h1, fun v H1 P1 d => ?_⟩
      cases d
      refine ⟨a.1, rfl, ?_⟩
      cases ha : a.1 with
      | false =>
        rw [ha] at e
        rw [if_neg Bool.false_ne_true]
        exact ⟨T, H0, w, env, a.2, k, iod', P1.1, e, fun v H' P2 => q v H' (P1.trans P2)⟩
      | true =>
        rw [ha] at e
        cases e
        rw [if_pos rfl]
        exact q _ H1 P1 (.bl true)
theorem x_not {a : Expr} {f : XS} {pos : Pos} (ha : SimX X s a f) : SimX X s (.UnaryOp .Not a pos) (xNot f) :=
  PE_mono (pe_not ha) fun σ H Q h => by
    obtain ⟨T, H0, w, env, iod, k, iod', R, e, q⟩ := h
    unfold xNot at e
    cases h1 : bX f env iod with
    | none => rw [h1] at e; cases e
    | some a =>
      rw [h1] at e
      cases e
      refine ⟨T, H0, w, env, iod, _, a.2, R, bX_inv h1, fun v H1 P1 d => ?_⟩
      cases d
      exact ⟨a.1, rfl, q _ H1 P1 (.bl _)⟩
/-- a if t else b -/
def xIf (c : BS) (f g : XS) : XS := fun env io => (c env io).bind fun a => if a.1 then f env a.2 else g env a.2
theorem x_if {c a b : Expr} {t : BS} {f g : XS} {pos : Pos} (hc : SimB X s c t) (ha : SimX X s a f) (hb : SimX X s b g) : SimX X s (.IfExp c a b pos) (xIf t f g) :=
  PE_mono (pe_ifExp hc ha hb) fun σ H Q h => by
    obtain ⟨T, H0, w, env, iod, k, iod', R, e, q⟩ := h
    unfold xIf at e
    cases h1 : t env iod with
    | none => rw [h1] at e; cases e
    | some a =>
      rw [h1, Option.bind_some] at e
      refine ⟨T, H0, w, env, iod, a.1, a.2, R, h1, fun H1 P1 => ?_⟩
      cases ha : a.1 with
      | true =>
        rw [ha] at e
        rw [if_pos rfl]
        exact ⟨T, H0, w, env, a.2, k, iod', P1.1, e, fun v H' P2 => q v H' (P1.trans P2)⟩
      | false =>
        rw [ha] at e
        rw [if_neg Bool.false_ne_true]
        exact ⟨T, H0, w, env, a.2, k, iod', P1.1, e, fun v H' P2 => q v H' (P1.trans P2)⟩
/-- a < b < c -/
def xChain (op op' : D → D → Option D) (f g h : XS) : XS := fun env io => (f env io).bind fun a => (g env a.2).bind fun b => (op a.1 b.1).bind fun c => match c with
  | .bl true => (h env b.2).bind fun z => (op' b.1 z.1).map fun u => (u, z.2)
  | .bl false => some (.bl false, b.2)
  | _ => none
theorem tChain_sound {K : PySem.W.Frag} {op op' : D → D → Option D} {r r' : R2} {f g k : XS} (hk : R2Ok K op r) (hk' : R2Ok K op' r') (σ : L2.St) (H : Hp) (Q : VK) (h : tX K s (xChain op op' f g k) σ H Q) :
    tChain r r' (tX K s f) (tX K s g) (tX K s k) σ H Q := by
  obtain ⟨T, H0, w, env, iod, u, iod', R, e, q⟩ := h
  unfold xChain at e
  cases h1 : f env iod with
  | none => rw [h1] at e; cases e
  | some a =>
    rw [h1, Option.bind_some] at e
    cases h2 : g env a.2 with
    | none => rw [h2] at e; cases e
    | some b =>
      rw [h2, Option.bind_some] at e
      cases h3 : op a.1 b.1 with
      | none => rw [h3] at e; cases e
      | some c =>
        rw [h3, Option.bind_some] at e
        refine ⟨T, H0, w, env, iod, a.1, a.2, R, h1, fun x H1 P1 d1 => ⟨T, H0, w, env, a.2, b.1, b.2, P1.1, h2, fun y H2 P2 d2 => ?_⟩⟩
        refine hk P2.1.frS (d1.mono P2.2) d2 h3 fun z H3 g3 d3 => ?_
        have P3 : Post K T H0 s w env b.2 σ H2 H3 := ⟨P2.1.grow g3, cutS g3⟩
        cases c with
        | bl c =>
          cases d3
          cases c with
          | true =>
            refine ⟨true, rfl, ?_⟩
            rw [if_pos rfl]
            have e : ((k env b.2).bind fun z => (op' b.1 z.1).map fun u => (u, z.2)) = some (u, iod') := e
            cases h4 : k env b.2 with
            | none => rw [h4] at e; cases e
            | some z =>
              rw [h4, Option.bind_some] at e
              cases h5 : op' b.1 z.1 with
              | none => rw [h5] at e; cases e
              | some u' =>
                rw [h5] at e
                cases e
                refine ⟨T, H0, w, env, b.2, z.1, z.2, P3.1, h4, fun y' H4 P4 d4 => ?_⟩
                refine hk' P4.1.frS ((d2.mono P3.2).mono P4.2) d4 h5 fun v H' g' d' => ?_
                exact q v H' ((((P1.trans P2).trans P3).trans P4).trans ⟨P4.1.grow g', cutS g'⟩) d'
          | false =>
            have e : some (D.bl false, b.2) = some (u, iod') := e
            cases e
            refine ⟨false, rfl, ?_⟩
            rw [if_neg Bool.false_ne_true]
            exact q _ H3 ((P1.trans P2).trans P3) (.bl false)
        | _ => cases e
theorem x_chain {o o' : CmpOp} {r r' : R2} {op op' : D → D → Option D} {a b c : Expr} {f g k : XS} {pos : Pos} (ho : OpR X (compareOp o) r) (ho' : OpR X (compareOp o') r') (hk : R2Ok X.K op r) (hk' : R2Ok X.K op' r') (ha : SimX X s a f) (hb : SimX X s b g) (hc : SimX X s c k)
    (hm : lastMarks [o, o'] [b, c] = false := by with_unfolding_all rfl) : SimX X s (.Compare a [o, o'] [b, c] pos) (xChain op op' f g k) :=
  PE_mono (pe_chain ho ho' ha hb hc hm) (tChain_sound hk hk')
theorem b_chain {o o' : CmpOp} {r r' : R2} {op op' : D → D → Option D} {a b c : Expr} {f g k : XS} {pos : Pos} (ho : OpR X (compareOp o) r) (ho' : OpR X (compareOp o') r') (hk : R2Ok X.K op r) (hk' : R2Ok X.K op' r') (ha : SimX X s a f) (hb : SimX X s b g) (hc : SimX X s c k)
    (hm : lastMarks [o, o'] [b, c] = false := by with_unfolding_all rfl) : SimB X s (.Compare a [o, o'] [b, c] pos) (bX (xChain op op' f g k)) :=
  PT_mono (pt_chain ho ho' ha hb hc hm) (tTest_sound (tChain_sound hk hk'))

/-! ### argument lists, displays -/
def xNil : XLS := fun _ io => some ([], io)
def xCons (f : XS) (g : XLS) : XLS := fun env io => (f env io).bind fun a => (g env a.2).map fun r => (a.1 :: r.1, r.2)
theorem l_nil : SimL X s [] xNil := PA_mono pa_nil fun σ H Q h => by
  obtain ⟨T, H0, w, env, iod, k, iod', R, e, q⟩ := h
  cases e
  exact q [] H R.post .nil
theorem l_cons {e : Expr} {es : List Expr} {f : XS} {g : XLS} (he : SimX X s e f) (hr : SimL X s es g) (hs : starEach (e :: es) X.env = (false, eval e X.env) :: starEach es X.env := by rfl) : SimL X s (e :: es) (xCons f g) :=
  PA_mono (pa_cons he hr hs) fun σ H Q h => by
    obtain ⟨T, H0, w, env, iod, k, iod', R, e, q⟩ := h
    unfold xCons at e
    cases h1 : f env iod with
    | none => rw [h1] at e; cases e
    | some a =>
      rw [h1, Option.bind_some] at e
      cases h2 : g env a.2 with
      | none => rw [h2] at e; cases e
      | some b =>
        rw [h2] at e
        cases e
        exact ⟨T, H0, w, env, iod, a.1, a.2, R, h1, fun x H1 P1 d1 => ⟨T, H0, w, env, a.2, b.1, b.2, P1.1, h2, fun y H2 P2 d2 => q _ H2 (P1.trans P2) (.cons (d1.mono P2.2) d2)⟩⟩
def szL (n : Nat) : Bool := Nat.ble n 16777216
theorem szL_ok {n : Nat} (h : szL n = true) : n ≤ sizeLine := Nat.le_trans (Nat.le_of_ble_eq_true h) (by rw [sizeLine_eq]; decide)
def xTup (f : XLS) : XS := fun env io => (f env io).bind fun a => if szL a.1.length then some (.tup a.1, a.2) else none
def xLst (f : XLS) : XS := fun env io => (f env io).bind fun a => if szL a.1.length then some (.lst a.1, a.2) else none
theorem if_some {α : Type} {c : Bool} {a b : α} (h : (if c then some a else none) = some b) : c = true ∧ a = b := by
  cases c with
  | true => exact ⟨rfl, Option.some.inj h⟩
  | false => cases h
theorem x_tup {es : List Expr} {k} {f : XLS} {pos : Pos} (h : SimL X s es f) : SimX X s (.Tuple es k pos) (xTup f) :=
  PE_mono (pe_tup h) fun σ H Q h => by
    obtain ⟨T, H0, w, env, iod, d, iod', R, e, q⟩ := h
    unfold xTup at e
    cases h1 : f env iod with
    | none => rw [h1] at e; cases e
    | some a =>
      rw [h1, Option.bind_some] at e
      obtain ⟨hz, e⟩ := if_some e
      cases e
      refine ⟨T, H0, w, env, iod, a.1, a.2, R, h1, fun vs H1 P1 d1 => ⟨by rw [d1.length]; exact szL_ok hz, fun p hp => ?_⟩⟩
      refine q _ _ (P1.new hp) (.tup ?_ (d1.mono (cut_new hp)))
      rw [cut_out (P1.1.fresh_S hp), upd_same]
theorem n_lst {es : List Expr} {f : XLS} {pos : Pos} (h : SimL X s es f) : SimN X s (.List es pos) (xLst f) :=
  PE_mono (pe_lst h) fun σ H Q h => by
    obtain ⟨T, H0, w, env, iod, d, iod', R, e, q⟩ := h
    unfold xLst at e
    cases h1 : f env iod with
    | none => rw [h1] at e; cases e
    | some a =>
      rw [h1, Option.bind_some] at e
      obtain ⟨hz, e⟩ := if_some e
      cases e
      refine ⟨T, H0, w, env, iod, a.1, a.2, R, h1, fun vs H1 P1 d1 => ⟨by rw [d1.length]; exact szL_ok hz, fun p hp => ?_⟩⟩
      refine q _ _ (P1.1.lay (same_new hp) hp (cell_upd fun _ z => by cases z)) (P1.2.trans (cut_lay (same_new hp) hp)) (P1.1.none0 hp) (.lst upd_same (d1.mono (cut_lay (same_new hp) hp)))
/-- a new object, frozen at once -/
theorem x_new {e : Expr} {f : XS} (h : SimN X s e f) : SimX X s e f := PE_mono h fun σ H Q h => by
  obtain ⟨T, H0, w, env, iod, d, iod', R, e, q⟩ := h
  exact ⟨T, H0, w, env, iod, d, iod', R, e, fun p H' R' cs _ o => q _ H' (lay_post R' cs o).1 (lay_post R' cs o).2⟩
theorem x_lst {es : List Expr} {f : XLS} {pos : Pos} (h : SimL X s es f) : SimX X s (.List es pos) (xLst f) := x_new (n_lst h)

/-! ### calls of what is built in -/
def xCall (op : List D → Option D) (f : XLS) : XS := fun env io => (f env io).bind fun a => (op a.1).map fun c => (c, a.2)
theorem xCall_inv {op : List D → Option D} {f : XLS} {env : Env} {io c io' : D} (h : xCall op f env io = some (c, io')) : ∃ ds, f env io = some (ds, io') ∧ op ds = some c := by
  unfold xCall at h
  cases h1 : f env io with
  | none => rw [h1] at h; cases h
  | some a =>
    rw [h1, Option.bind_some] at h
    cases h3 : op a.1 with
    | none => rw [h3] at h; cases h
    | some c' =>
      rw [h3, Option.map_some] at h
      cases h
      exact ⟨a.1, rfl, h3⟩
def COk (K : PySem.W.Frag) (op : List D → Option D) (r : List V → Hp → VK → Prop) : Prop := ∀ {S : List Addr} {H : Hp} {xs : List V} {ds : List D} {c : D} {Q : VK}, Fr S H → DnL K (cut S H) xs ds → op ds = some c →
  (∀ v H', Same H H' → Dn K (cut S H') v c → Q v H') → r xs H Q
/-- .. that makes a new object -/
def CNew (K : PySem.W.Frag) (op : List D → Option D) (r : List V → Hp → VK → Prop) : Prop := ∀ {S : List Addr} {H : Hp} {xs : List V} {ds : List D} {c : D} {Q : VK}, Fr S H → DnL K (cut S H) xs ds → op ds = some c →
  (∀ p H', Same H H' → H p = none → Own K (cut (p :: S) H') H' p c → Q (.ref p) H') → r xs H Q
theorem COk.or {K : PySem.W.Frag} {op op' : List D → Option D} {r r' : List V → Hp → VK → Prop} (h : COk K op r) (h' : COk K op' r') : COk K (fun a => (op a).or (op' a)) (fun x H Q => r x H Q ∨ r' x H Q) := by
  intro S H x a c Q hf h1 e q
  have e : (op a).or (op' a) = some c := e
  cases e1 : op a with
  | some c' =>
    rw [e1] at e
    cases e
    exact .inl (h hf h1 e1 q)
  | none =>
    rw [e1] at e
    exact .inr (h' hf h1 e q)
theorem tCB_sound {K : PySem.W.Frag} {op : List D → Option D} {r : List V → Hp → VK → Prop} {f : XLS} (hk : COk K op r) (σ : L2.St) (H : Hp) (Q : VK) (h : tX K s (xCall op f) σ H Q) : tCB r (tXL K s f) σ H Q := by
  obtain ⟨T, H0, w, env, iod, c, iod', R, e, q⟩ := h
  obtain ⟨ds, e1, e3⟩ := xCall_inv e
  refine ⟨T, H0, w, env, iod, ds, iod', R, e1, fun x H1 P1 d1 => ?_⟩
  exact hk P1.1.frS d1 e3 fun v H' g d => q v H' (P1.trans ⟨P1.1.grow g, cutS g⟩) d
theorem lay_q {K : PySem.W.Frag} {T : List Addr} {H0 H H1 H' : Hp} {w : Ow} {env : Env} {iod : D} {σ : L2.St} {p : Addr} {d : D} {Q : VK} (P1 : Post K T H0 s w env iod σ H H1) (g : Same H1 H') (hp : H1 p = none) (o : Own K (cut (p :: w.S T) H') H' p d)
    (q : ∀ p H', Rel K (p :: T) H0 s w env iod σ H' → Same (cut (w.S T) H) (cut (w.S (p :: T)) H') → H0 p = none → Own K (cut (w.S (p :: T)) H') H' p d → Q (.ref p) H') : Q (.ref p) H' := by
  have e : cut (p :: w.S T) H' = cut (w.S (p :: T)) H' := cut_congr fun b => by rw [Ow.S_cons, List.mem_cons]
  rw [e] at o
  exact q p H' (P1.1.lay g hp o.cell) (P1.2.trans (cut_lay g hp)) (P1.1.none0 hp) o
theorem tCB_new {K : PySem.W.Frag} {op : List D → Option D} {r : List V → Hp → VK → Prop} {f : XLS} (hk : CNew K op r) (σ : L2.St) (H : Hp) (Q : VK) (h : tN K s (xCall op f) σ H Q) : tCB r (tXL K s f) σ H Q := by
  obtain ⟨T, H0, w, env, iod, c, iod', R, e, q⟩ := h
  obtain ⟨ds, e1, e3⟩ := xCall_inv e
  refine ⟨T, H0, w, env, iod, ds, iod', R, e1, fun x H1 P1 d1 => ?_⟩
  exact hk P1.1.frS d1 e3 fun p H' g hp o => lay_q P1 g hp o q
section
variable {x : Str} {p pos : Pos} {e : Expr} {es : List Expr} {id T : String} {r : List V → Hp → VK → Prop} {op : List D → Option D} {f : XLS}
theorem x_callB (hc : CallR X (.builtin id) r) (hk : COk X.K op r) (hg : Gl X x) (hm : X.mg x = none) (hv : bootBuiltins x = some (.builtin id)) (ha : SimL X s (e :: es) f) (hn : x ≠ "__name__" := by decide) (hdb : (x == ("__debug__" : Str)) = false := by decide)
    (he : starEach (e :: es) X.env = (false, eval e X.env) :: starEach es X.env := by rfl) (hpl : (backTo pos (starEach es X.env)).any (·.1) = false := by rfl) : SimX X s (.Call (.Name x p) (e :: es) [] pos) (xCall op f) :=
  PE_mono (pe_callB hc hg hm hv ha hn hdb he hpl) (tCB_sound hk)
theorem x_callT (hc : CallR X (.type T) r) (hk : COk X.K op r) (hg : Gl X x) (hm : X.mg x = none) (hv : bootBuiltins x = some (.type T)) (ha : SimL X s (e :: es) f) (hn : x ≠ "__name__" := by decide) (hdb : (x == ("__debug__" : Str)) = false := by decide)
    (he : starEach (e :: es) X.env = (false, eval e X.env) :: starEach es X.env := by rfl) (hpl : (backTo pos (starEach es X.env)).any (·.1) = false := by rfl) : SimX X s (.Call (.Name x p) (e :: es) [] pos) (xCall op f) :=
  PE_mono (pe_callTy hc hg hm hv ha hn hdb he hpl) (tCB_sound hk)
theorem n_callB (hc : CallR X (.builtin id) r) (hk : CNew X.K op r) (hg : Gl X x) (hm : X.mg x = none) (hv : bootBuiltins x = some (.builtin id)) (ha : SimL X s (e :: es) f) (hn : x ≠ "__name__" := by decide) (hdb : (x == ("__debug__" : Str)) = false := by decide)
    (he : starEach (e :: es) X.env = (false, eval e X.env) :: starEach es X.env := by rfl) (hpl : (backTo pos (starEach es X.env)).any (·.1) = false := by rfl) : SimN X s (.Call (.Name x p) (e :: es) [] pos) (xCall op f) :=
  PE_mono (pe_callB hc hg hm hv ha hn hdb he hpl) (tCB_new hk)
theorem n_callT (hc : CallR X (.type T) r) (hk : CNew X.K op r) (hg : Gl X x) (hm : X.mg x = none) (hv : bootBuiltins x = some (.type T)) (ha : SimL X s (e :: es) f) (hn : x ≠ "__name__" := by decide) (hdb : (x == ("__debug__" : Str)) = false := by decide)
    (he : starEach (e :: es) X.env = (false, eval e X.env) :: starEach es X.env := by rfl) (hpl : (backTo pos (starEach es X.env)).any (·.1) = false := by rfl) : SimN X s (.Call (.Name x p) (e :: es) [] pos) (xCall op f) :=
  PE_mono (pe_callTy hc hg hm hv ha hn hdb he hpl) (tCB_new hk)
end

/-! ### what a def promises -/
/-- a def that changes nothing: its pure semantics -/
def spP (K : PySem.W.Frag) (n : Nat) (F : List D → Option D) : Sp := fun vs H Q _ => vs.length = n ∧ ∃ S ds d, S.Nodup ∧ Fr S H ∧ DnL K (cut S H) vs ds ∧ F ds = some d ∧ ∀ v H', Same H H' → Dn K (cut S H') v d → Q v H'
/-- .. whose result is a new object -/
def spN (K : PySem.W.Frag) (n : Nat) (F : List D → Option D) : Sp := fun vs H Q _ => vs.length = n ∧ ∃ S ds d, S.Nodup ∧ Fr S H ∧ DnL K (cut S H) vs ds ∧ F ds = some d ∧ ∀ p H', Same H H' → H p = none → Own K (cut (p :: S) H') H' p d → Q (.ref p) H'
/-- a def whose first argument is the io cell -/
def spI (K : PySem.W.Frag) (n : Nat) (F : D → List D → Option (D × D)) : Sp := fun vs H Q _ => vs.length = n + 1 ∧ ∃ p us S h ds d h', vs = .ref p :: us ∧ p ∈ S ∧ S.Nodup ∧ Fr S H ∧ DnL K (cut S H) us ds ∧ Own K (cut S H) H p h ∧ F h ds = some (d, h') ∧
  ∀ v H', (∀ b o, b ≠ p → H b = some o → H' b = some o) → Own K (cut S H') H' p h' → Dn K (cut S H') v d → Q v H'
/-- a def with its pure semantics -/
structure OkP (P : Program) (w : World) (K : PySem.W.Frag) (mg : Str → Option Value) (base : Heap) (k : Nat) (f : Addr) (fd : FuncData) (ps : List Str) (F : List D → Option D) : Prop where
  ok : FnOk P w K mg base CX0 k f fd ps (spP K ps.length F)
  len : ∀ ds d, F ds = some d → ds.length = ps.length
  kp : PySem.W.keepIn K (.ref f) = true
  bi : L2.Binds K fd ps []
structure OkN (P : Program) (w : World) (K : PySem.W.Frag) (mg : Str → Option Value) (base : Heap) (k : Nat) (f : Addr) (fd : FuncData) (ps : List Str) (F : List D → Option D) : Prop where
  ok : FnOk P w K mg base CX0 k f fd ps (spN K ps.length F)
  len : ∀ ds d, F ds = some d → ds.length = ps.length
  kp : PySem.W.keepIn K (.ref f) = true
  bi : L2.Binds K fd ps []
structure OkI (P : Program) (w : World) (K : PySem.W.Frag) (mg : Str → Option Value) (base : Heap) (k : Nat) (f : Addr) (fd : FuncData) (ps : List Str) (F : D → List D → Option (D × D)) : Prop where
  ok : FnOk P w K mg base CX0 k f fd ps (spI K (ps.length - 1) F)
  len : ∀ h ds d, F h ds = some d → ds.length + 1 = ps.length
  kp : PySem.W.keepIn K (.ref f) = true
  bi : L2.Binds K fd ps []
section
variable {j : Nat} {f : Addr} {fd : FuncData} {ps : List Str} {n : Nat} {x : Str} {p pos : Pos} {e : Expr} {es : List Expr} {g : XLS}
theorem x_fn {F : List D → Option D} (G : OkP X.prog X.w X.K X.mg X.base j f fd ps F) (hr : Room j X.A) (hg : Gl X x) (hm : X.mg x = some (.ref f))
    (ha : SimL X s (e :: es) g) (hdb : (x == ("__debug__" : Str)) = false := by decide) (he : starEach (e :: es) X.env = (false, eval e X.env) :: starEach es X.env := by rfl)
    (hpl : (backTo pos (starEach es X.env)).any (·.1) = false := by rfl) : SimX X s (.Call (.Name x p) (e :: es) [] pos) (xCall F g) :=
  PE_mono (pe_call G.ok hr hg hm G.kp G.bi .nil pass0 ha hdb he hpl) fun σ H Q h => by
    obtain ⟨T, H0, w, env, iod, c, iod', R, e, q⟩ := h
    obtain ⟨ds, e1, e3⟩ := xCall_inv e
    refine ⟨T, H0, w, env, iod, ds, iod', R, e1, fun xs H1 P1 d1 => ?_⟩
    show spP X.K ps.length F (xs ++ []) H1 Q E0
    rw [List.append_nil]
    refine ⟨by rw [d1.length]; exact G.len _ _ e3, w.S T, ds, c, P1.1.nd, P1.1.frS, d1, e3, fun v H' g d => ?_⟩
    exact q v H' (P1.trans ⟨P1.1.grow g, cutS g⟩) d
theorem n_fn {F : List D → Option D} (G : OkN X.prog X.w X.K X.mg X.base j f fd ps F) (hr : Room j X.A) (hg : Gl X x) (hm : X.mg x = some (.ref f))
    (ha : SimL X s (e :: es) g) (hdb : (x == ("__debug__" : Str)) = false := by decide) (he : starEach (e :: es) X.env = (false, eval e X.env) :: starEach es X.env := by rfl)
    (hpl : (backTo pos (starEach es X.env)).any (·.1) = false := by rfl) : SimN X s (.Call (.Name x p) (e :: es) [] pos) (xCall F g) :=
  PE_mono (pe_call G.ok hr hg hm G.kp G.bi .nil pass0 ha hdb he hpl) fun σ H Q h => by
    obtain ⟨T, H0, w, env, iod, c, iod', R, e, q⟩ := h
    obtain ⟨ds, e1, e3⟩ := xCall_inv e
    refine ⟨T, H0, w, env, iod, ds, iod', R, e1, fun xs H1 P1 d1 => ?_⟩
    show spN X.K ps.length F (xs ++ []) H1 Q E0
    rw [List.append_nil]
    exact ⟨by rw [d1.length]; exact G.len _ _ e3, w.S T, ds, c, P1.1.nd, P1.1.frS, d1, e3, fun p H' g hp o => lay_q P1 g hp o q⟩
/-- f(hand, ..): the io cell handed on -/
def xIo (F : D → List D → Option (D × D)) (f : XLS) : XS := fun env io => (f env io).bind fun a => F a.2 a.1
end
section
variable {K : PySem.W.Frag} {T : List Addr} {H0 H H' : Hp} {s : Sh} {w : Ow} {env : Env} {iod iod' : D} {σ : L2.St} {i : Nat} {q : Addr}
theorem Rel.io (R : Rel K T H0 s w env iod σ H) (hs : s.J = some i) : ∃ q, w.io = some q ∧ σ[i]? = some (some (.ref q)) ∧ Own K (cut (w.S T) H) H q iod := by
  cases e : w.io with
  | none => rw [R.ioN e] at hs; cases hs
  | some q =>
    obtain ⟨h1, j, h2, h3, _⟩ := R.ioY q e
    rw [hs] at h2
    cases h2
    exact ⟨q, rfl, h3, h1⟩
theorem Ow.nd_io (nd : (w.S T).Nodup) (hq : w.io = some q) : (∀ i p, (i, p) ∈ w.A → p ≠ q) ∧ q ∉ T := by
  unfold Ow.S at nd
  rw [hq] at nd
  have h := (List.nodup_cons.mp (show (q :: (w.A.map (·.2) ++ T)).Nodup from nd)).1
  refine ⟨fun i p hp z => h (List.mem_append_left _ (List.mem_map.mpr ⟨(i, p), hp, z⟩)), fun z => h (List.mem_append_right _ z)⟩
/-- the io cell's content has changed, all else is as it was -/
theorem Rel.ioSet (R : Rel K T H0 s w env iod σ H) (hq : w.io = some q) (g : ∀ b o, b ≠ q → H b = some o → H' b = some o) (o : Own K (cut (w.S T) H') H' q iod') : Rel K T H0 s w env iod' σ H' := by
  have hqS : q ∈ w.S T := Ow.mem_io hq
  obtain ⟨nA, nT⟩ := Ow.nd_io R.nd hq
  have cs : Same (cut (w.S T) H) (cut (w.S T) H') := cut_mono (fun _ z => .inl z) fun b o hb e => g b o (fun z => hb (by rw [z]; exact hqS)) e
  exact ⟨R.len, R.sh, R.ndO, fun i d hi e => by
      obtain ⟨v, h1, h2⟩ := R.val i d hi e
      exact ⟨v, h1, h2.mono cs⟩, fun i p hp => by
      obtain ⟨h1, d, h2, h3⟩ := R.own i p hp
      exact ⟨h1, d, h2, h3.mono cs fun o e => g _ _ (nA i p hp) e⟩, fun q' hq' => by
      rw [hq] at hq'
      cases hq'
      exact ⟨o, (R.ioY q hq).2⟩, R.ioN, R.nd, (fun t ht => (R.tal t ht).keep fun o e => g t o (fun y => nT (by rw [← y]; exact ht)) e), fun b o' e n => g _ _ (fun z => n (by rw [z]; exact hq)) (R.base b o' e n), R.fresh⟩
theorem Post.ioSet (R : Rel K T H0 s w env iod σ H) (hq : w.io = some q) (g : ∀ b o, b ≠ q → H b = some o → H' b = some o) (o : Own K (cut (w.S T) H') H' q iod') : Post K T H0 s w env iod' σ H H' :=
  ⟨R.ioSet hq g o, cut_mono (fun _ z => .inl z) fun b o hb e => g b o (fun z => hb (by rw [z]; exact Ow.mem_io hq)) e⟩
end
section
variable {j : Nat} {f : Addr} {fd : FuncData} {ps : List Str} {x y : Str} {p p' pos : Pos} {es : List Expr} {g : XLS} {i : Nat}
theorem x_io {F : D → List D → Option (D × D)} (G : OkI X.prog X.w X.K X.mg X.base j f fd ps F) (I : In P w0 K mg base k X N sc φ) (hr : Room j X.A) (hg : Gl X x) (hm : X.mg x = some (.ref f)) (hi : s.J = some i) (hN : N[i]? = some y) (hv : Vis sc y)
    (ha : SimL X s es g) (hdb : (x == ("__debug__" : Str)) = false := by decide) (hd2 : (y == ("__debug__" : Str)) = false := by decide) (hcd : (y == ("__classdict__" : Str)) = false := by decide)
    (he : starEach (.Name y p' :: es) X.env = (false, eval (.Name y p') X.env) :: starEach es X.env := by rfl) (hpl : (backTo pos (starEach es X.env)).any (·.1) = false := by rfl) : SimX X s (.Call (.Name x p) (.Name y p' :: es) [] pos) (xIo F g) :=
  PE_mono (pe_call G.ok hr hg hm G.kp G.bi .nil pass0 (pa_cons (pe_var (i := i) (by rw [I.hN]; exact hN) (by rw [I.hs]; exact hv) hd2 hcd) ha he) hdb he hpl) fun σ H Q h => by
    obtain ⟨T, H0, w, env, iod, c, iod', R, e, q⟩ := h
    obtain ⟨r, e1, e3⟩ : ∃ r, g env iod = some r ∧ F r.2 r.1 = some (c, iod') := by
      unfold xIo at e
      cases h1 : g env iod with
      | none => rw [h1] at e; cases e
      | some a =>
        rw [h1, Option.bind_some] at e
        exact ⟨a, rfl, e⟩
    obtain ⟨q0, hq, hσ, _⟩ := R.io hi
    refine ⟨.ref q0, hσ, T, H0, w, env, iod, r.1, r.2, R, e1, fun xs H1 P1 d1 => ?_⟩
    show spI X.K (ps.length - 1) F ((.ref q0 :: xs) ++ []) H1 Q E0
    rw [List.append_nil]
    have hl := G.len _ _ _ e3
    have o1 := (P1.1.ioY q0 hq).1
    refine ⟨by rw [List.length_cons, d1.length]; omega, q0, xs, w.S T, r.2, r.1, c, iod', rfl, Ow.mem_io hq, P1.1.nd, P1.1.frS, d1, o1, e3, fun v H' g o d => ?_⟩
    exact q v H' (P1.trans (.ioSet P1.1 hq g o)) d
end
end PL

/-! PL3: statements, loops, defs. -/
namespace PL
open PySem PySem.Spec PyProof.Rows L2

section
variable {K : PySem.W.Frag} {T : List Addr} {H0 H H' H1 : Hp} {s s' : Sh} {w w' : Ow} {env env' : Env} {iod iod' : D} {σ σ' : L2.St} {i : Nat} {q : Addr} {v : V} {d : D}

/-! ### a slot is set -/
theorem Rel.setX (R : Rel K T H0 s w env iod σ H) (hO : i ∉ s.O) (hJ : s.J ≠ some i) (hd : Dn K (cut (w.S T) H) v d) : Rel K T H0 s w (env.set i (some d)) iod (σ.set i (some v)) H where
  len := by rw [List.length_set, List.length_set]; exact R.len
  sh := R.sh
  ndO := R.ndO
  val := fun j d' hj e => by
    by_cases hij : i = j
    · subst hij
      have hlt : i < env.length := by
        have h := List.getElem?_eq_some_iff.mp e
        obtain ⟨h, _⟩ := h
        rw [List.length_set] at h
        exact h
      rw [List.getElem?_set_self hlt] at e
      cases e
      exact ⟨v, List.getElem?_set_self (by rw [← R.len]; exact hlt), hd⟩
    · rw [List.getElem?_set_ne hij] at e
      rw [List.getElem?_set_ne hij]
      exact R.val j d' hj e
  own := fun j p hp => by
    obtain ⟨h1, d', h2, h3⟩ := R.own j p hp
    have hij : i ≠ j := fun z => hO (by rw [z, ← R.sh]; exact List.mem_map.mpr ⟨(j, p), hp, rfl⟩)
    rw [List.getElem?_set_ne hij, List.getElem?_set_ne hij]
    exact ⟨h1, d', h2, h3⟩
  ioY := fun q hq => by
    obtain ⟨h1, j, h2, h3, h4, h5⟩ := R.ioY q hq
    have hij : i ≠ j := fun z => hJ (by rw [z]; exact h2)
    refine ⟨h1, j, h2, ?_, ?_, h5⟩
    · rw [List.getElem?_set_ne hij]; exact h3
    · rw [List.getElem?_set_ne hij]; exact h4
  ioN := R.ioN
  nd := R.nd
  tal := R.tal
  base := R.base
  fresh := R.fresh
/-- a slot is forgotten -/
theorem Rel.unset (R : Rel K T H0 s w env iod σ H) (hO : i ∉ s.O) (hJ : s.J ≠ some i) : Rel K T H0 s w (env.set i none) iod σ H where
  len := by rw [List.length_set]; exact R.len
  sh := R.sh
  ndO := R.ndO
  val := fun j d' hj e => by
    by_cases hij : i = j
    · subst hij
      have hlt : i < env.length := by
        have h := List.getElem?_eq_some_iff.mp e
        obtain ⟨h, _⟩ := h
        rw [List.length_set] at h
        exact h
      rw [List.getElem?_set_self hlt] at e
      cases e
    · rw [List.getElem?_set_ne hij] at e
      exact R.val j d' hj e
  own := fun j p hp => by
    obtain ⟨h1, d', h2, h3⟩ := R.own j p hp
    have hij : i ≠ j := fun z => hO (by rw [z, ← R.sh]; exact List.mem_map.mpr ⟨(j, p), hp, rfl⟩)
    rw [List.getElem?_set_ne hij]
    exact ⟨h1, d', h2, h3⟩
  ioY := fun q hq => by
    obtain ⟨h1, j, h2, h3, h4, h5⟩ := R.ioY q hq
    have hij : i ≠ j := fun z => hJ (by rw [z]; exact h2)
    refine ⟨h1, j, h2, h3, ?_, h5⟩
    rw [List.getElem?_set_ne hij]; exact h4
  ioN := R.ioN
  nd := R.nd
  tal := R.tal
  base := R.base
  fresh := R.fresh
def wipeE (ws : List Nat) (env : Env) : Env := ws.foldl (fun e i => e.set i none) env
def okW (s : Sh) (ws : List Nat) : Bool := ws.all fun i => !s.O.contains i && !(s.J == some i)
theorem Rel.wipe : ∀ (ws : List Nat) {env : Env}, okW s ws = true → Rel K T H0 s w env iod σ H → Rel K T H0 s w (wipeE ws env) iod σ H
  | [], _, _, R => R
  | i :: ws, env, h, R => by
    unfold okW at h
    rw [List.all_cons, Bool.and_eq_true] at h
    obtain ⟨h1, h2⟩ := h
    rw [Bool.and_eq_true] at h1
    obtain ⟨h3, h4⟩ := h1
    refine Rel.wipe ws h2 (R.unset (i := i) (fun z => ?_) (fun z => ?_))
    · rw [List.contains_iff_mem.mpr z] at h3; cases h3
    · rw [z, beq_self_eq_true] at h4; cases h4

/-! ### owned slots are frozen -/
theorem snd_inj : ∀ {l : List (Nat × Addr)} {a b : Nat} {p : Addr}, (l.map (·.2)).Nodup → (a, p) ∈ l → (b, p) ∈ l → a = b
  | x :: l, a, b, p, nd, h1, h2 => by
    rw [List.map_cons] at nd
    obtain ⟨n1, n2⟩ := List.nodup_cons.mp nd
    rcases List.mem_cons.mp h1 with z1 | z1
    · rcases List.mem_cons.mp h2 with z2 | z2
      · rw [← z1] at z2; cases z2; rfl
      · exact absurd (List.mem_map.mpr ⟨(b, p), z2, by rw [← z1]⟩) n1
    · rcases List.mem_cons.mp h2 with z2 | z2
      · exact absurd (List.mem_map.mpr ⟨(a, p), z1, by rw [← z2]⟩) n1
      · exact snd_inj n2 z1 z2
theorem fst_inj : ∀ {l : List (Nat × Addr)} {a : Nat} {p q : Addr}, (l.map (·.1)).Nodup → (a, p) ∈ l → (a, q) ∈ l → p = q
  | x :: l, a, p, q, nd, h1, h2 => by
    rw [List.map_cons] at nd
    obtain ⟨n1, n2⟩ := List.nodup_cons.mp nd
    rcases List.mem_cons.mp h1 with z1 | z1
    · rcases List.mem_cons.mp h2 with z2 | z2
      · rw [← z1] at z2; cases z2; rfl
      · exact absurd (List.mem_map.mpr ⟨(a, q), z2, by rw [← z1]⟩) n1
    · rcases List.mem_cons.mp h2 with z2 | z2
      · exact absurd (List.mem_map.mpr ⟨(a, p), z1, by rw [← z2]⟩) n1
      · exact fst_inj n2 z1 z2
def Sh.le (s' s : Sh) : Bool := (s'.O == s.O.filter s'.O.contains) && s'.J == s.J
theorem Rel.frz (R : Rel K T H0 s w env iod σ H) (h : Sh.le s' s = true) : ∃ w', w'.io = w.io ∧ Rel K T H0 s' w' env iod σ H ∧ Same (cut (w.S T) H) (cut (w'.S T) H) := by
  unfold Sh.le at h
  rw [Bool.and_eq_true] at h
  have hO : s'.O = s.O.filter s'.O.contains := eq_of_beq h.1
  have hJ : s'.J = s.J := eq_of_beq h.2
  let w' : Ow := ⟨w.io, w.A.filter fun q => s'.O.contains q.1⟩
  have hsub : ∀ z, z ∈ w'.A → z ∈ w.A := fun z hz => (List.mem_filter.mp hz).1
  have hS : ∀ b, b ∈ w'.S T → b ∈ w.S T := fun b hb => by
    rcases Ow.mem_S hb with z | ⟨j, z⟩ | z
    · exact Ow.mem_io z
    · exact Ow.mem_A (hsub _ z)
    · exact Ow.mem_T z
  have cs : Same (cut (w.S T) H) (cut (w'.S T) H) := cut_mono (fun b hb => .inl (hS b hb)) fun _ _ _ e => e
  have ndP : (w.A.map (·.2)).Nodup := by
    have h1 := R.nd
    unfold Ow.S at h1
    exact (List.nodup_append.mp (List.nodup_append.mp h1).2.1).1
  refine ⟨w', rfl, ⟨R.len, ?_, ?_, fun j d hj e => ?_, fun j p hp => ?_, fun q hq => ?_, fun e => ?_, ?_, R.tal, R.base, fun j p hp => R.fresh j p (hsub _ hp)⟩, cs⟩
  · show (w.A.filter fun q => s'.O.contains q.1).map (·.1) = s'.O
    conv => rhs; rw [hO, ← R.sh]
    rw [List.filter_map]
    rfl
  · rw [hO]
    exact R.ndO.sublist List.filter_sublist
  · by_cases hs : j ∈ s.O
    · -- an owned slot that is frozen now
      rw [← R.sh] at hs
      obtain ⟨⟨j', p⟩, hp, e1⟩ := List.mem_map.mp hs
      have e1 : j' = j := e1
      subst e1
      obtain ⟨h1, d', h2, h3⟩ := R.own j' p hp
      rw [h2] at e
      cases e
      have hpS : p ∉ w'.S T := fun z => by
        rcases Ow.mem_S z with z | ⟨j2, z⟩ | z
        · exact (Ow.nd_io R.nd z).1 j' p hp rfl
        · have e2 : j' = j2 := snd_inj ndP hp (hsub _ z)
          subst e2
          have := (List.mem_filter.mp z).2
          exact hj (List.contains_iff_mem.mp this)
        · have h4 := R.nd
          unfold Ow.S at h4
          have h5 := (List.nodup_append.mp (List.nodup_append.mp h4).2.1).2.2
          exact h5 p (List.mem_map.mpr ⟨(j', p), hp, rfl⟩) p z rfl
      exact ⟨.ref p, h1, h3.dn cs fun o e => by rw [cut_out hpS]; exact e⟩
    · obtain ⟨v, h1, h2⟩ := R.val j d hs e
      exact ⟨v, h1, h2.mono cs⟩
  · obtain ⟨h1, d, h2, h3⟩ := R.own j p (hsub _ hp)
    exact ⟨h1, d, h2, h3.mono cs fun _ e => e⟩
  · obtain ⟨h1, j, h2, h3, h4, h5⟩ := R.ioY q hq
    refine ⟨h1.mono cs fun _ e => e, j, by rw [hJ]; exact h2, h3, h4, fun z => h5 ?_⟩
    rw [hO] at z
    exact (List.mem_filter.mp z).1
  · rw [hJ]; exact R.ioN e
  · have h1 := R.nd
    unfold Ow.S at h1 ⊢
    exact h1.sublist (List.Sublist.append_left (List.Sublist.append_right (List.Sublist.map _ List.filter_sublist) _) _)
end
end PL

/-! PL4: statements. -/
namespace PL
open PySem PySem.Spec PyProof.Rows L2
variable {X : Cx} {s s' s2 sl : Sh} {N : List Str} {sc : Scope} {φ : Str → Bool} {P : Program} {w0 : World} {K : PySem.W.Frag} {mg : Str → Option Value} {base : Heap} {k : Nat}

/-! ### blocks -/
def sSkip : SS := fun env io => some (.nx, env, io)
def sSeq (f g : SS) : SS := fun env io => (f env io).bind fun r => match r with
  | (.nx, env', io') => g env' io'
  | r => some r
theorem ss_nil (hl : Sh.le s' s = true := by rfl) : SimSs X s s' sl [] sSkip := PSs_mono pss_nil fun Z σ H h => by
  obtain ⟨T, H0, w, env, iod, fl, env', iod', R, e, q⟩ := h
  cases e
  obtain ⟨w', hio, R', cs⟩ := R.frz hl
  exact q w' σ H (.inr hio) cs R'
theorem ss_cons {st : Stmt} {rest : List Stmt} {f g : SS} (h1 : SimS X s s2 sl st f) (h2 : SimSs X s2 s' sl rest g) : SimSs X s s' sl (st :: rest) (sSeq f g) :=
  PSs_mono (pss_cons h1 h2) fun Z σ H h => by
    obtain ⟨T, H0, w, env, iod, fl, env', iod', R, e, q⟩ := h
    unfold sSeq at e
    cases e1 : f env iod with
    | none => rw [e1] at e; cases e
    | some r =>
      rw [e1, Option.bind_some] at e
      obtain ⟨fl1, env1, iod1⟩ := r
      refine ⟨T, H0, w, env, iod, fl1, env1, iod1, R, e1, fun w1 σ1 H1 hio cs => ?_⟩
      cases fl1 with
      | nx =>
        intro R1
        have e : g env1 iod1 = some (fl, env', iod') := e
        refine ⟨T, H0, w1, env1, iod1, fl, env', iod', R1, e, fun w2 σ2 H2 hio2 cs2 => ?_⟩
        have hio3 := hio.trans hio2
        exact q w2 σ2 H2 hio3 (cs.trans cs2)
      | bk =>
        cases e
        exact q w1 σ1 H1 hio cs
      | ct =>
        cases e
        exact q w1 σ1 H1 hio cs
      | rt d =>
        cases e
        exact q w1 σ1 H1 hio cs
theorem ss_one {st : Stmt} {f : SS} (h1 : SimS X s s' sl st f) : SimSs X s s' sl [st] f := by
  refine PSs_mono (pss_one h1) fun Z σ H h => h
/-- owned slots are frozen ahead of a statement -/
theorem frz_sound {f : SS} (hl : Sh.le s2 s = true) (Z : Ends) (σ : L2.St) (H : Hp) (h : tS K s s' sl f Z σ H) : tS K s2 s' sl f Z σ H := by
  obtain ⟨T, H0, w, env, iod, fl, env', iod', R, e, q⟩ := h
  obtain ⟨w', hio, R', cs⟩ := R.frz hl
  refine ⟨T, H0, w', env, iod, fl, env', iod', R', e, fun w2 σ2 H2 hio2 cs2 => ?_⟩
  have hio3 : IoOk H0 w w2 := IoOk.trans (w1 := w') (.inr hio) hio2
  exact q w2 σ2 H2 hio3 (cs.trans cs2)
theorem s_frz {st : Stmt} {f : SS} (s2 : Sh) (h : SimS X s2 s' sl st f) (hl : Sh.le s2 s = true := by rfl) : SimS X s s' sl st f := PS_mono h (frz_sound hl)
theorem ss_frz {st : List Stmt} {f : SS} (s2 : Sh) (h : SimSs X s2 s' sl st f) (hl : Sh.le s2 s = true := by rfl) : SimSs X s s' sl st f := PSs_mono h (frz_sound hl)

/-! ### small statements -/
def sDrop (f : XS) : SS := fun env io => (f env io).bind fun a => some (.nx, env, a.2)
theorem s_expr {e : Expr} {f : XS} {pos : Pos} (he : SimX X s e f) (hs : swapsWith e none pos.line X.env = pure false := by rfl) : SimS X s s sl (.Expr e pos) (sDrop f) :=
  PS_mono (ps_expr he hs) fun Z σ H h => by
    obtain ⟨T, H0, w, env, iod, fl, env', iod', R, e, q⟩ := h
    unfold sDrop at e
    cases e1 : f env iod with
    | none => rw [e1] at e; cases e
    | some a =>
      rw [e1, Option.bind_some] at e
      cases e
      exact ⟨T, H0, w, env, iod, a.1, a.2, R, e1, fun v H' P d => q w σ H' (.inr rfl) P.2 P.1⟩
def sRet (f : XS) : SS := fun env io => (f env io).bind fun a => some (.rt a.1, env, a.2)
theorem s_ret {e : Expr} {f : XS} {pos : Pos} (he : SimX X s e f) : SimS X s s' sl (.Return (some e) pos) (sRet f) :=
  PS_mono (ps_ret he) fun Z σ H h => by
    obtain ⟨T, H0, w, env, iod, fl, env', iod', R, e, q⟩ := h
    unfold sRet at e
    cases e1 : f env iod with
    | none => rw [e1] at e; cases e
    | some a =>
      rw [e1, Option.bind_some] at e
      cases e
      exact ⟨T, H0, w, env, iod, a.1, a.2, R, e1, fun v H' P d => q w σ H' (.inr rfl) P.2 s v P.1 d⟩
def sRetN : SS := fun env io => some (.rt .non, env, io)
theorem s_retN {pos : Pos} : SimS X s s' sl (.Return none pos) sRetN :=
  PS_mono ps_retN fun Z σ H h => by
    obtain ⟨T, H0, w, env, iod, fl, env', iod', R, e, q⟩ := h
    cases e
    exact q w σ H (.inr rfl) (Same.refl _) s .non R .non
def sBk : SS := fun env io => some (.bk, env, io)
def sCt : SS := fun env io => some (.ct, env, io)
theorem s_break {pos : Pos} (hl : Sh.le sl s = true := by rfl) : SimS X s s' sl (.Break pos) sBk :=
  PS_mono ps_break fun Z σ H h => by
    obtain ⟨T, H0, w, env, iod, fl, env', iod', R, e, q⟩ := h
    cases e
    obtain ⟨w', hio, R', cs⟩ := R.frz hl
    exact q w' σ H (.inr hio) cs R'
theorem s_continue {pos : Pos} (hl : Sh.le sl s = true := by rfl) : SimS X s s' sl (.Continue pos) sCt :=
  PS_mono ps_continue fun Z σ H h => by
    obtain ⟨T, H0, w, env, iod, fl, env', iod', R, e, q⟩ := h
    cases e
    obtain ⟨w', hio, R', cs⟩ := R.frz hl
    exact q w' σ H (.inr hio) cs R'
theorem s_pass {pos : Pos} (hl : Sh.le s' s = true := by rfl) : SimS X s s' sl (.Pass pos) sSkip :=
  PS_mono ps_pass fun Z σ H h => by
    obtain ⟨T, H0, w, env, iod, fl, env', iod', R, e, q⟩ := h
    cases e
    obtain ⟨w', hio, R', cs⟩ := R.frz hl
    exact q w' σ H (.inr hio) cs R'
/-- a statement that is never reached -/
def sNever : SS := fun _ _ => none
theorem s_never {st : Stmt} : SimS X s s' sl st sNever := PS_mono ps_never fun Z σ H h => by
  obtain ⟨T, H0, w, env, iod, fl, env', iod', R, e, q⟩ := h
  cases e
theorem ss_never {st : List Stmt} : SimSs X s s' sl st sNever := PSs_mono pss_never fun Z σ H h => by
  obtain ⟨T, H0, w, env, iod, fl, env', iod', R, e, q⟩ := h
  cases e
def sIf (c : BS) (f g : SS) : SS := fun env io => (c env io).bind fun a => if a.1 then f env a.2 else g env a.2
theorem s_if {c : Expr} {a b : List Stmt} {t : BS} {f g : SS} {pos : Pos} (hc : SimB X s c t) (ha : SimSs X s s' sl a f) (hb : SimSs X s s' sl b g) : SimS X s s' sl (.If c a b pos) (sIf t f g) :=
  PS_mono (ps_if hc ha hb) fun Z σ H h => by
    obtain ⟨T, H0, w, env, iod, fl, env', iod', R, e, q⟩ := h
    unfold sIf at e
    cases h1 : t env iod with
    | none => rw [h1] at e; cases e
    | some a =>
      rw [h1, Option.bind_some] at e
      refine ⟨T, H0, w, env, iod, a.1, a.2, R, h1, fun H1 P1 => ?_⟩
      cases ha : a.1 with
      | true =>
        rw [ha] at e
        rw [if_pos rfl]
        exact ⟨T, H0, w, env, a.2, fl, env', iod', P1.1, e, fun w' σ' H' hio cs => q w' σ' H' hio (P1.2.trans cs)⟩
      | false =>
        rw [ha] at e
        rw [if_neg Bool.false_ne_true]
        exact ⟨T, H0, w, env, a.2, fl, env', iod', P1.1, e, fun w' σ' H' hio cs => q w' σ' H' hio (P1.2.trans cs)⟩

/-! ### targets -/
abbrev BD := D → Env → Option Env
abbrev BDs := List D → Env → Option Env
/-- but for the slots vs the frame is as it was -/
def Off (vs : List Nat) (σ σ' : L2.St) : Prop := σ'.length = σ.length ∧ ∀ i, i ∉ vs → σ'[i]? = σ[i]?
theorem Off.trans {vs : List Nat} {σ σ1 σ2 : L2.St} (a : Off vs σ σ1) (b : Off vs σ1 σ2) : Off vs σ σ2 := ⟨b.1.trans a.1, fun i hi => (b.2 i hi).trans (a.2 i hi)⟩
def tG (K : PySem.W.Frag) (s : Sh) (vs : List Nat) (b : BD) : TG := fun v σ H Q => ∃ T H0 w env iod d env', Rel K T H0 s w env iod σ H ∧ Dn K (cut (w.S T) H) v d ∧ b d env = some env' ∧ ∀ σ', Off vs σ σ' → Rel K T H0 s w env' iod σ' H → Q σ' H
def tGs (K : PySem.W.Frag) (s : Sh) (vs : List Nat) (b : BDs) : TGs := fun us σ H Q => ∃ T H0 w env iod ds env', Rel K T H0 s w env iod σ H ∧ DnL K (cut (w.S T) H) us ds ∧ b ds env = some env' ∧ ∀ σ', Off vs σ σ' → Rel K T H0 s w env' iod σ' H → Q σ' H
abbrev SimG (X : Cx) (s : Sh) (vs : List Nat) (tg : Expr) (b : BD) : Prop := PG X tg (tG X.K s vs b)
abbrev SimGs (X : Cx) (s : Sh) (vs : List Nat) (tg : List Expr) (b : BDs) : Prop := PGs X tg (tGs X.K s vs b)
theorem PG_mono {tg : Expr} {t t' : TG} (h : PG X tg t) (m : ∀ v σ H Q, t' v σ H Q → t v σ H Q) : PG X tg t' := ⟨fun pins s σ H v u Q I r q => h.run pins s σ H v u Q I r (m v σ H Q q)⟩
theorem PGs_mono {tg : List Expr} {t t' : TGs} (h : PGs X tg t) (m : ∀ v σ H Q, t' v σ H Q → t v σ H Q) : PGs X tg t' := ⟨fun pins s σ H v u Q I r q => h.run pins s σ H v u Q I r (m v σ H Q q)⟩
def gN (i : Nat) : BD := fun d env => some (env.set i (some d))
def gNil : BDs := fun ds env => match ds with
  | [] => some env
  | _ => none
def gCons (b : BD) (r : BDs) : BDs := fun ds env => match ds with
  | d :: ds => (b d env).bind fun e => r ds e
  | [] => none
def gTup (r : BDs) : BD := fun d env => match d with
  | .tup ds => r ds env
  | _ => none
def okS (s : Sh) (i : Nat) : Bool := !s.O.contains i && !(s.J == some i)
theorem okS_ok {i : Nat} (h : okS s i = true) : i ∉ s.O ∧ s.J ≠ some i := by
  unfold okS at h
  rw [Bool.and_eq_true] at h
  refine ⟨fun z => ?_, fun z => ?_⟩
  · have h1 := h.1
    rw [List.contains_iff_mem.mpr z] at h1; cases h1
  · have h2 := h.2
    rw [z, beq_self_eq_true] at h2; cases h2
theorem off_set {vs : List Nat} {i : Nat} {v : V} {σ : L2.St} (hv : vs.contains i = true) : Off vs σ (σ.set i (some v)) := ⟨List.length_set .., fun j hj => List.getElem?_set_ne fun z => hj (by rw [← z]; exact List.contains_iff_mem.mp hv)⟩
theorem gName_sound {vs : List Nat} {i : Nat} (ho : okS s i = true) (hv : vs.contains i = true) (v : V) (σ : L2.St) (H : Hp) (Q : L2.St → Hp → Prop) (h : tG K s vs (gN i) v σ H Q) : L2.gName i v σ H Q := by
  obtain ⟨T, H0, w, env, iod, d, env', R, hd, e, q⟩ := h
  cases e
  obtain ⟨h1, h2⟩ := okS_ok ho
  exact q _ (off_set hv) (R.setX h1 h2 hd)
theorem g_name {vs : List Nat} {i : Nat} {x : Str} {pos : Pos} (I : In P w0 K mg base k X N sc φ) (hi : N[i]? = some x) (hx : Loc sc x) (ho : okS s i = true := by rfl) (hv : vs.contains i = true := by rfl) (hf : φ x = true ∨ sc.names.lookup x = some .local := by first | exact .inr rfl | exact .inl rfl | assumption) : SimG X s vs (.Name x pos) (gN i) :=
  PG_mono (pg_name (i := i) (by rw [I.hN]; exact I.nd) (by rw [I.hN]; exact hi) (by rw [I.hs]; exact hx) (by rw [I.hs, I.hfn]; exact hf)) (gName_sound ho hv)
theorem gs_nil {vs : List Nat} : SimGs X s vs [] gNil := PGs_mono pgs_nil fun vs σ H Q h => by
  obtain ⟨T, H0, w, env, iod, ds, env', R, hd, e, q⟩ := h
  cases hd with
  | nil =>
    cases e
    exact ⟨rfl, q σ ⟨rfl, fun _ _ => rfl⟩ R⟩
  | cons _ _ => cases e
theorem gs_cons {vs : List Nat} {e : Expr} {es : List Expr} {b : BD} {r : BDs} (h1 : SimG X s vs e b) (h2 : SimGs X s vs es r)
    (hs : (assignEach (e :: es) X.env).map (·.2) = assign e X.env :: (assignEach es X.env).map (·.2) := by rfl) : SimGs X s vs (e :: es) (gCons b r) :=
  PGs_mono (pgs_cons h1 h2 hs) fun vs σ H Q h => by
    obtain ⟨T, H0, w, env, iod, ds, env', R, hd, e, q⟩ := h
    cases hd with
    | nil => cases e
    | cons hv hr =>
      rename_i v us d ds
      have e : (b d env).bind (fun e => r ds e) = some env' := e
      cases e1 : b d env with
      | none => rw [e1] at e; cases e
      | some env1 =>
        rw [e1, Option.bind_some] at e
        exact ⟨_, _, rfl, T, H0, w, env, iod, _, env1, R, hv, e1, fun σ1 o1 R1 => ⟨T, H0, w, env1, iod, _, env', R1, hr, e, fun σ2 o2 => q σ2 (o1.trans o2)⟩⟩
/-- how many a chain of targets takes -/
theorem g_tup {vs : List Nat} {es : List Expr} {kk : Nat} {r : BDs} {n : Nat} {pos : Pos} (I : In P w0 K mg base k X N sc φ) (h : SimGs X s vs es r) (hr : ∀ ds env env', r ds env = some env' → ds.length = n) (hn : (assignEach es X.env).length = n := by rfl) (hst : (assignEach es X.env).findIdx? (·.1) = none := by rfl) : SimG X s vs (.Tuple es kk pos) (gTup r) :=
  PG_mono (pg_tup I.calm h hn hst) fun v σ H Q h => by
    obtain ⟨T, H0, w, env, iod, d, env', R, hd, e, q⟩ := h
    cases hd with
    | tup hs hl =>
      have e : r _ env = some env' := e
      refine ⟨_, _, rfl, (seqTc hs), ?_, T, H0, w, env, iod, _, env', R, hl, e, q⟩
      rw [hl.length]
      exact hr _ _ _ e
    | _ => cases e
theorem gNil_len : ∀ (ds : List D) (env env' : Env), gNil ds env = some env' → ds.length = 0 := fun ds env env' h => by
  cases ds with
  | nil => rfl
  | cons _ _ => cases h
theorem gCons_len {b : BD} {r : BDs} {n : Nat} (h : ∀ (ds : List D) (env env' : Env), r ds env = some env' → ds.length = n) : ∀ (ds : List D) (env env' : Env), gCons b r ds env = some env' → ds.length = n + 1 := fun ds env env' e => by
  cases ds with
  | nil => cases e
  | cons d ds =>
    have e : (b d env).bind (fun e => r ds e) = some env' := e
    cases e1 : b d env with
    | none => rw [e1] at e; cases e
    | some env1 =>
      rw [e1, Option.bind_some] at e
      rw [List.length_cons, h _ _ _ e]

/-! ### assignments -/
def sAsg (f : XS) (b : BD) : SS := fun env io => (f env io).bind fun a => (b a.1 env).map fun e => (.nx, e, a.2)
theorem tAsg_sound {vs : List Nat} {f : XS} {b : BD} {te : TE} {g : TG} (he : ∀ σ H Q, tX K s f σ H Q → te σ H Q) (hg : ∀ v σ H Q, tG K s vs b v σ H Q → g v σ H Q) (Z : Ends) (σ : L2.St) (H : Hp) (h : tS K s s sl (sAsg f b) Z σ H) : tAsg te g Z σ H := by
  obtain ⟨T, H0, w, env, iod, fl, env', iod', R, e, q⟩ := h
  unfold sAsg at e
  cases e1 : f env iod with
  | none => rw [e1] at e; cases e
  | some a =>
    rw [e1, Option.bind_some] at e
    cases e2 : b a.1 env with
    | none => rw [e2] at e; cases e
    | some env1 =>
      rw [e2] at e
      cases e
      refine he _ _ _ ⟨T, H0, w, env, iod, a.1, a.2, R, e1, fun v H1 P d => ?_⟩
      refine hg _ _ _ _ ⟨T, H0, w, env, a.2, a.1, _, P.1, d, e2, fun σ' _ R' => ?_⟩
      exact q w σ' H1 (.inr rfl) P.2 R'
theorem s_asg {vs : List Nat} {tg e : Expr} {f : XS} {b : BD} {pos : Pos} (he : SimX X s e f) (hg : SimG X s vs tg b) (hs : swapsWithSole [tg] e pos.line X.env = pure false := by rfl) (hw : swappedStores [tg] e X.env = pure none := by rfl)
    (h1 : (assignEach [tg] X.env).map (·.2) = [assign tg X.env] := by rfl) : SimS X s s sl (.Assign [tg] e pos) (sAsg f b) :=
  PS_mono (ps_asg he hg hs hw h1) (tAsg_sound (fun _ _ _ z => z) fun _ _ _ _ z => z)
theorem s_set {i : Nat} {x : Str} {e : Expr} {f : XS} {pos pos' : Pos} (I : In P w0 K mg base k X N sc φ) (hi : N[i]? = some x) (hx : Loc sc x) (he : SimX X s e f) (ho : okS s i = true := by rfl) (hs : swapsWith e (some (.Name x pos')) pos.line X.env = pure false := by rfl)
    (hf : φ x = true ∨ sc.names.lookup x = some .local := by first | exact .inr rfl | exact .inl rfl | assumption) : SimS X s s sl (.Assign [.Name x pos'] e pos) (sAsg f (gN i)) :=
  PS_mono (ps_set (i := i) (by rw [I.hN]; exact I.nd) (by rw [I.hN]; exact hi) (by rw [I.hs]; exact hx) he hs (by rw [I.hs, I.hfn]; exact hf)) (tAsg_sound (vs := [i]) (fun _ _ _ z => z) (gName_sound ho (by simp)))
/-- a new object, owned by a slot from now on -/
def Sh.add (s : Sh) (i : Nat) : Sh := ⟨s.J, i :: s.O⟩
theorem Rel.own_new {T : List Addr} {H0 H : Hp} {w : Ow} {env : Env} {iod : D} {σ : L2.St} {i : Nat} {p : Addr} {d : D} (R : Rel K (p :: T) H0 s w env iod σ H) (hi : i < env.length) (ho : okS s i = true) (h0 : H0 p = none) (o : Own K (cut (w.S (p :: T)) H) H p d) :
    Rel K T H0 (s.add i) ⟨w.io, (i, p) :: w.A⟩ (env.set i (some d)) iod (σ.set i (some (.ref p))) H ∧ cut ((Ow.mk w.io ((i, p) :: w.A)).S T) H = cut (w.S (p :: T)) H := by
  obtain ⟨h1, h2⟩ := okS_ok ho
  have hS : ∀ b, b ∈ (Ow.mk w.io ((i, p) :: w.A)).S T ↔ b ∈ w.S (p :: T) := fun b => by
    rw [Ow.S_cons]
    unfold Ow.S
    simp only [List.map_cons, List.mem_append, List.mem_cons]
    constructor
    · rintro (z | (z | z) | z)
      · exact .inr (.inl z)
      · exact .inl z
      · exact .inr (.inr (.inl z))
      · exact .inr (.inr (.inr z))
    · rintro (z | z | z | z)
      · exact .inr (.inl (.inl z))
      · exact .inl z
      · exact .inr (.inl (.inr z))
      · exact .inr (.inr z)
  have ec : cut ((Ow.mk w.io ((i, p) :: w.A)).S T) H = cut (w.S (p :: T)) H := cut_congr hS
  have hiσ : i < σ.length := by rw [← R.len]; exact hi
  have neA : ∀ j q, (j, q) ∈ w.A → i ≠ j := fun j q hq z => h1 (by rw [z, ← R.sh]; exact List.mem_map.mpr ⟨(j, q), hq, rfl⟩)
  refine ⟨⟨by rw [List.length_set, List.length_set]; exact R.len, by show i :: w.A.map (·.1) = i :: s.O; rw [R.sh], List.nodup_cons.mpr ⟨h1, R.ndO⟩, fun j d' hj e => ?_, fun j p' hp' => ?_, fun q hq => ?_, R.ioN, ?_, fun t ht => R.tal t (List.mem_cons_of_mem _ ht), R.base, fun j p' hp' => ?_⟩, ec⟩
  · have hij : i ≠ j := fun z => hj (by rw [z]; exact List.mem_cons_self)
    rw [List.getElem?_set_ne hij] at e ⊢
    rw [ec]
    exact R.val j d' (fun z => hj (List.mem_cons_of_mem _ z)) e
  · rw [ec]
    rcases List.mem_cons.mp hp' with z | z
    · cases z
      exact ⟨List.getElem?_set_self hiσ, d, List.getElem?_set_self hi, o⟩
    · have hij := neA j p' z
      rw [List.getElem?_set_ne hij, List.getElem?_set_ne hij]
      exact R.own j p' z
  · rw [ec]
    obtain ⟨h3, j, h4, h5, h6, h7⟩ := R.ioY q hq
    have hij : i ≠ j := fun z => h2 (by rw [z]; exact h4)
    refine ⟨h3, j, h4, ?_, ?_, fun z => ?_⟩
    · rw [List.getElem?_set_ne hij]; exact h5
    · rw [List.getElem?_set_ne hij]; exact h6
    · rcases List.mem_cons.mp z with z | z
      · exact hij z.symm
      · exact h7 z
  · have nd := R.nd
    unfold Ow.S at nd ⊢
    show (w.io.toList ++ (p :: w.A.map (·.2) ++ T)).Nodup
    refine (List.Perm.nodup_iff ?_).mpr nd
    refine List.Perm.append_left _ ?_
    exact List.perm_middle.symm
  · rcases List.mem_cons.mp hp' with z | z
    · cases z; exact h0
    · exact R.fresh j p' z
def sNew (f : XS) (i : Nat) : SS := fun env io => (f env io).bind fun a => if Nat.blt i env.length then some (.nx, env.set i (some a.1), a.2) else none
theorem s_new {i : Nat} {x : Str} {e : Expr} {f : XS} {pos pos' : Pos} (I : In P w0 K mg base k X N sc φ) (hi : N[i]? = some x) (hx : Loc sc x) (he : SimN X s e f) (ho : okS s i = true := by rfl) (hs : swapsWith e (some (.Name x pos')) pos.line X.env = pure false := by rfl)
    (hf : φ x = true ∨ sc.names.lookup x = some .local := by first | exact .inr rfl | exact .inl rfl | assumption) : SimS X s (s.add i) sl (.Assign [.Name x pos'] e pos) (sNew f i) :=
  PS_mono (ps_set (i := i) (by rw [I.hN]; exact I.nd) (by rw [I.hN]; exact hi) (by rw [I.hs]; exact hx) he hs (by rw [I.hs, I.hfn]; exact hf)) fun Z σ H h => by
    obtain ⟨T, H0, w, env, iod, fl, env', iod', R, e, q⟩ := h
    unfold sNew at e
    cases e1 : f env iod with
    | none => rw [e1] at e; cases e
    | some a =>
      rw [e1, Option.bind_some] at e
      obtain ⟨hlt, e⟩ := if_some e
      cases e
      refine ⟨T, H0, w, env, iod, a.1, a.2, R, e1, fun p H1 R1 cs h0 o => ?_⟩
      obtain ⟨R2, ec⟩ := R1.own_new (Nat.le_of_ble_eq_true hlt) ho h0 o
      exact q ⟨w.io, (i, p) :: w.A⟩ _ H1 (.inr rfl) (by rw [ec]; exact cs) R2
end PL

/-! PL5: owned lists changed; loops; defs. -/
namespace PL
open PySem PySem.Spec PyProof.Rows L2
variable {X : Cx} {s s' s2 sl : Sh} {N : List Str} {sc : Scope} {φ : Str → Bool} {P : Program} {w0 : World} {K : PySem.W.Frag} {mg : Str → Option Value} {base : Heap} {k : Nat}

section
variable {T : List Addr} {H0 H H' : Hp} {w : Ow} {env : Env} {iod : D} {σ : L2.St} {i : Nat} {p : Addr} {d : D}
theorem Rel.ownAt (R : Rel K T H0 s w env iod σ H) (hi : i ∈ s.O) : ∃ p, (i, p) ∈ w.A ∧ σ[i]? = some (some (.ref p)) ∧ ∃ d, env[i]? = some (some d) ∧ Own K (cut (w.S T) H) H p d := by
  rw [← R.sh] at hi
  obtain ⟨⟨j, p⟩, hp, e⟩ := List.mem_map.mp hi
  have e : j = i := e
  subst e
  exact ⟨p, hp, R.own j p hp⟩
/-- an owned cell's content has changed -/
theorem Rel.ownSet (R : Rel K T H0 s w env iod σ H) (hp : (i, p) ∈ w.A) (g : ∀ b o, b ≠ p → H b = some o → H' b = some o) (o : Own K (cut (w.S T) H') H' p d) :
    Rel K T H0 s w (env.set i (some d)) iod σ H' ∧ Same (cut (w.S T) H) (cut (w.S T) H') := by
  have hpS : p ∈ w.S T := Ow.mem_A hp
  have cs : Same (cut (w.S T) H) (cut (w.S T) H') := cut_mono (fun _ z => .inl z) fun b o hb e => g b o (fun z => hb (by rw [z]; exact hpS)) e
  have ndS := R.nd
  unfold Ow.S at ndS
  obtain ⟨n1, n2, n3⟩ := List.nodup_append.mp ndS
  obtain ⟨m1, m2, m3⟩ := List.nodup_append.mp n2
  have hpM : p ∈ w.A.map (·.2) := List.mem_map.mpr ⟨(i, p), hp, rfl⟩
  have hiO : i ∈ s.O := by rw [← R.sh]; exact List.mem_map.mpr ⟨(i, p), hp, rfl⟩
  have hlt : i < env.length := by
    obtain ⟨_, d0, h2, _⟩ := R.own i p hp
    exact (List.getElem?_eq_some_iff.mp h2).1
  refine ⟨⟨by rw [List.length_set]; exact R.len, R.sh, R.ndO, fun j d' hj e => ?_, fun j q hq => ?_, fun q hq => ?_, R.ioN, R.nd, fun t ht => ?_, fun b o' e n => g _ _ (fun z => ?_) (R.base b o' e n), R.fresh⟩, cs⟩
  · have hij : i ≠ j := fun z => hj (by rw [← z]; exact hiO)
    rw [List.getElem?_set_ne hij] at e
    obtain ⟨v, h1, h2⟩ := R.val j d' hj e
    exact ⟨v, h1, h2.mono cs⟩
  · obtain ⟨h1, d', h2, h3⟩ := R.own j q hq
    by_cases hij : i = j
    · subst hij
      have e : q = p := fst_inj (by rw [R.sh]; exact R.ndO) hq hp
      subst e
      exact ⟨h1, d, List.getElem?_set_self hlt, o⟩
    · rw [List.getElem?_set_ne hij]
      have hqp : q ≠ p := fun z => hij (snd_inj m1 (by rw [z] at hq; exact hp) (by rw [z] at hq; exact hq))
      exact ⟨h1, d', h2, h3.mono cs fun o e => g _ _ hqp e⟩
  · obtain ⟨h3, j, h4, h5, h6, h7⟩ := R.ioY q hq
    have hqp : q ≠ p := fun z => n3 q (by rw [hq]; simp) p (List.mem_append_left _ hpM) z
    have hij : i ≠ j := fun z => h7 (by rw [← z]; exact hiO)
    refine ⟨h3.mono cs fun o e => g _ _ hqp e, j, h4, h5, ?_, h7⟩
    rw [List.getElem?_set_ne hij]; exact h6
  · have htp : t ≠ p := fun y => m3 p hpM t ht y.symm
    exact (R.tal t ht).keep fun o e => g t o htp e
  · rw [z] at e
    rw [R.fresh i p hp] at e
    cases e
end

/-! ### x.append(e), x.extend(e), x[i] = e -/
def sApp (i : Nat) (f : XS) : SS := fun env io => (f env io).bind fun a => match env[i]? with
  | some (some (.lst ds)) => if Nat.blt ds.length 16777216 then some (.nx, env.set i (some (.lst (ds ++ [a.1]))), a.2) else none
  | _ => none
theorem blt_line {n : Nat} (h : Nat.blt n 16777216 = true) : n < sizeLine := Nat.lt_of_lt_of_le (Nat.le_of_ble_eq_true h) (by rw [sizeLine_eq]; decide)
theorem own_lst {Hc H : Hp} {p : Addr} {ds : List D} (o : Own K Hc H p (.lst ds)) : ∃ xs, H p = some (.lst xs) ∧ DnL K Hc xs ds := by
  cases o with
  | lst h r => exact ⟨_, h, r⟩
/-- what must be seen of a method's call in the text -/
abbrev MFew (X : Cx) (es : List Expr) (cpos : Pos) : Prop := ((backTo cpos (starEach es X.env)).all (fun x => !x.1) && (backToKw cpos (keywordEach [] X.env)).all (fun x => x.1.isSome)
      && decide (es.length + ([] : List Keyword).length + (if ([] : List Keyword).isEmpty then 0 else 1) < 30)) = true
abbrev MBase (X : Cx) (o : Expr) (m : Str) : Prop := attributeBase o m X.env (eval o X.env) = eval o X.env
abbrev MStar (X : Cx) (e : Expr) (es : List Expr) : Prop := starEach (e :: es) X.env = (false, eval e X.env) :: starEach es X.env
abbrev MPlain (X : Cx) (es : List Expr) (pos : Pos) : Prop := (backTo pos (starEach es X.env)).any (·.1) = false
abbrev NotD (x : Str) : Prop := (x == ("__debug__" : Str)) = false
abbrev NotC (x : Str) : Prop := (x == ("__classdict__" : Str)) = false
section
variable {i : Nat} {x : Str} {e : Expr} {f : XS} {pos p1 p2 p3 : Pos}
/-- a slot's name, as it stands -/
theorem pe_slot (I : In P w0 K mg base k X N sc φ) (hi : N[i]? = some x) (hv : Vis sc x) (hd : NotD x) (hcd : NotC x) : PE X (.Name x p1) (tVar i) := pe_var (i := i) (by rw [I.hN]; exact hi) (by rw [I.hs]; exact hv) hd hcd
theorem s_append (I : In P w0 K mg base k X N sc φ) (hi : N[i]? = some x) (hv : Vis sc x) (he : SimX X s e f) (ho : s.O.contains i = true := by rfl)
    (hs : swapsWith (.Call (.Attribute (.Name x p1) "append" p2) [e] [] p3) none pos.line X.env = pure false := by rfl) (hd : NotD x := by decide) (hcd : NotC x := by decide)
    (hbase : MBase X (.Name x p1) "append" := by rfl) (hfew : MFew X [e] p3 := by rfl) (hline : (p2.endLine == p3.line) = true := by rfl) (hst : MStar X e [] := by rfl) (hpl : MPlain X [] p3 := by rfl) : SimS X s s sl (.Expr (.Call (.Attribute (.Name x p1) "append" p2) [e] [] p3) pos) (sApp i f) := by
  refine PS_mono (ps_expr (pe_bm PySem.F.plainAttrs_list PySem.F.slot_list_append PySem.F.type_list_append mt_append (pe_slot I hi hv hd hcd) (pa_cons he pa_nil hst) hbase hfew hline hst hpl) hs) fun Z σ H h => ?_
  obtain ⟨T, H0, w, env, iod, fl, env', iod', R, e, q⟩ := h
  unfold sApp at e
  cases e1 : f env iod with
  | none => rw [e1] at e; cases e
  | some a =>
    rw [e1, Option.bind_some] at e
    obtain ⟨p, hp, hσ, d, h2, h3⟩ := R.ownAt (List.contains_iff_mem.mp ho)
    rw [h2] at e
    cases d with
    | lst ds =>
      obtain ⟨hz, e⟩ := if_some (show (if Nat.blt ds.length 16777216 then some _ else none) = some _ from e)
      cases e
      obtain ⟨xs, hx, _⟩ := own_lst h3
      refine ⟨.ref p, hσ, .inl ⟨rfl, _, .inl (.inl hx)⟩, T, H0, w, env, iod, a.1, a.2, R, e1, fun v H1 P1 d1 => ?_⟩
      obtain ⟨h4, d', h5, h6⟩ := P1.1.own i p hp
      rw [h2] at h5
      cases h5
      obtain ⟨ys, hy, hr⟩ := own_lst h6
      refine ⟨p, ys, v, rfl, rfl, hy, by rw [hr.length]; exact blt_line hz, ?_⟩
      have hpS : p ∈ w.S T := Ow.mem_A hp
      obtain ⟨R2, cs⟩ := P1.1.ownSet (H' := upd H1 p (.lst (ys ++ [v]))) (d := .lst (ds ++ [a.1])) hp (fun b o hb e => by rw [upd_ne hb]; exact e) (.lst upd_same (by rw [cut_upd_in hpS]; exact hr.append (.cons d1 .nil)))
      exact q w σ _ (.inr rfl) (P1.2.trans cs) R2
    | _ => cases e
def sExt (i : Nat) (f : XS) : SS := fun env io => (f env io).bind fun a => match env[i]?, a.1 with
  | some (some (.lst ds)), .lst es => if szL (ds.length + es.length) then some (.nx, env.set i (some (.lst (ds ++ es))), a.2) else none
  | _, _ => none
theorem s_extend (I : In P w0 K mg base k X N sc φ) (hi : N[i]? = some x) (hv : Vis sc x) (he : SimX X s e f) (ho : s.O.contains i = true := by rfl)
    (hs : swapsWith (.Call (.Attribute (.Name x p1) "extend" p2) [e] [] p3) none pos.line X.env = pure false := by rfl) (hd : NotD x := by decide) (hcd : NotC x := by decide)
    (hbase : MBase X (.Name x p1) "extend" := by rfl) (hfew : MFew X [e] p3 := by rfl) (hline : (p2.endLine == p3.line) = true := by rfl) (hst : MStar X e [] := by rfl) (hpl : MPlain X [] p3 := by rfl) : SimS X s s sl (.Expr (.Call (.Attribute (.Name x p1) "extend" p2) [e] [] p3) pos) (sExt i f) := by
  refine PS_mono (ps_expr (pe_bm PySem.F.plainAttrs_list PySem.F.slot_list_extend PySem.F.type_list_extend mt_extend (pe_slot I hi hv hd hcd) (pa_cons he pa_nil hst) hbase hfew hline hst hpl) hs) fun Z σ H h => ?_
  obtain ⟨T, H0, w, env, iod, fl, env', iod', R, e, q⟩ := h
  unfold sExt at e
  cases e1 : f env iod with
  | none => rw [e1] at e; cases e
  | some a =>
    rw [e1, Option.bind_some] at e
    obtain ⟨p, hp, hσ, d, h2, h3⟩ := R.ownAt (List.contains_iff_mem.mp ho)
    rw [h2] at e
    obtain ⟨a1, a2⟩ := a
    cases d with
    | lst ds =>
      cases a1 with
      | lst es =>
        obtain ⟨hz, e⟩ := if_some (show (if szL (ds.length + es.length) then some _ else none) = some _ from e)
        cases e
        obtain ⟨xs, hx, _⟩ := own_lst h3
        refine ⟨.ref p, hσ, .inl ⟨rfl, _, .inl (.inl hx)⟩, T, H0, w, env, iod, .lst es, a2, R, e1, fun v H1 P1 d1 => ?_⟩
        obtain ⟨h4, d', h5, h6⟩ := P1.1.own i p hp
        rw [h2] at h5
        cases h5
        obtain ⟨ys, hy, hr⟩ := own_lst h6
        cases d1 with
        | lst hb hr2 =>
          refine ⟨p, _, ys, _, rfl, rfl, hy, (cut_some hb).2, by rw [hr.length, hr2.length]; exact szL_ok hz, ?_⟩
          have hpS : p ∈ w.S T := Ow.mem_A hp
          obtain ⟨R2, cs⟩ := P1.1.ownSet (d := .lst (ds ++ es)) hp (fun b o hb e => by rw [upd_ne hb]; exact e) (.lst upd_same (by rw [cut_upd_in hpS]; exact hr.append hr2))
          exact q w σ _ (.inr rfl) (P1.2.trans cs) R2
      | _ => cases e
    | _ => cases e
/-- x[i] = e, x a list -/
def sSetI (i : Nat) (f g : XS) : SS := fun env io => (f env io).bind fun a => (g env a.2).bind fun b => match env[i]?, b.1 with
  | some (some (.lst ds)), .int j => (ixN ds.length j).map fun m => (.nx, env.set i (some (.lst (ds.set m a.1))), b.2)
  | _, _ => none
theorem s_setI {ix : Expr} {g : XS} (I : In P w0 K mg base k X N sc φ) (hi : N[i]? = some x) (hv : Vis sc x) (he : SimX X s e f) (hx : SimX X s ix g) (ho : s.O.contains i = true := by rfl)
    (hs : swapsWithSole [.Subscript (.Name x p1) ix p2] e pos.line X.env = pure false := by rfl) (hw : swappedStores [.Subscript (.Name x p1) ix p2] e X.env = pure none := by rfl)
    (h1 : (assignEach [.Subscript (.Name x p1) ix p2] X.env).map (·.2) = [assign (.Subscript (.Name x p1) ix p2) X.env] := by rfl) (hd : NotD x := by decide) (hcd : NotC x := by decide)
    (ha : ∀ v, assign (.Subscript (.Name x p1) ix p2) X.env v = (do
      let ov ← holding [v] (eval (.Name x p1) X.env)
      let iv ← holding [v, ov] (eval ix X.env)
      standAt p2
      holding [v, ov, iv] (setItem ov iv v)
      release [v, ov, iv] []) := by intro _; rfl) : SimS X s s sl (.Assign [.Subscript (.Name x p1) ix p2] e pos) (sSetI i f g) := by
  refine PS_mono (ps_asg he (pg_sub (pe_slot I hi hv hd hcd) hx set_list ha) hs hw h1) fun Z σ H h => ?_
  obtain ⟨T, H0, w, env, iod, fl, env', iod', R, e, q⟩ := h
  unfold sSetI at e
  cases e1 : f env iod with
  | none => rw [e1] at e; cases e
  | some a =>
    rw [e1, Option.bind_some] at e
    cases e2 : g env a.2 with
    | none => rw [e2] at e; cases e
    | some b =>
      rw [e2, Option.bind_some] at e
      obtain ⟨p, hp, hσ, d, h2, h3⟩ := R.ownAt (List.contains_iff_mem.mp ho)
      rw [h2] at e
      obtain ⟨b1, b2⟩ := b
      cases d with
      | lst ds =>
        cases b1 with
        | int j =>
          have e : (ixN ds.length j).map (fun m => (Fl.nx, env.set i (some (.lst (ds.set m a.1))), b2)) = some (fl, env', iod') := e
          cases e3 : ixN ds.length j with
          | none => rw [e3] at e; cases e
          | some m =>
            rw [e3] at e
            cases e
            refine ⟨T, H0, w, env, iod, a.1, a.2, R, e1, fun v H1 P1 d1 => ?_⟩
            refine ⟨.ref p, hσ, T, H0, w, env, a.2, .int j, _, P1.1, e2, fun iv H2 P2 d2 => ?_⟩
            cases d2
            obtain ⟨h4, d', h5, h6⟩ := P2.1.own i p hp
            rw [h2] at h5
            cases h5
            obtain ⟨ys, hy, hr⟩ := own_lst h6
            refine ⟨p, ys, j, m, rfl, rfl, hy, by rw [hr.length]; exact e3, ?_⟩
            have hpS : p ∈ w.S T := Ow.mem_A hp
            obtain ⟨R2, cs⟩ := P2.1.ownSet (d := .lst (ds.set m a.1)) hp (fun b o hb e => by rw [upd_ne hb]; exact e) (.lst upd_same (by rw [cut_upd_in hpS]; exact hr.set m (d1.mono P2.2)))
            exact q w σ _ (.inr rfl) ((P1.2.trans P2.2).trans cs) R2
        | _ => cases e
      | _ => cases e
end

/-! ### reading an owned list: len(x), x[i] -/
def xOwn (i : Nat) : Env → Option D := fun env => match env[i]? with
  | some (some d) => some d
  | _ => none
end PL

/-! PL6: what is walked; for, while; comprehensions; defs. -/
namespace PL
open PySem PySem.Spec PyProof.Rows L2
variable {X : Cx} {s s' s2 sl : Sh} {N : List Str} {sc : Scope} {φ : Str → Bool} {P : Program} {w0 : World} {K : PySem.W.Frag} {mg : Str → Option Value} {base : Heap} {k : Nat}

/-! ### what is walked -/
/-- J walks the data ds, whatever happens outside of what is frozen at H -/
def Src (K : PySem.W.Frag) (J : It) (S : List Addr) (H : Hp) (ds : List D) : Prop := ds.length ≤ sizeLine ∧
  ∀ (S2 : List Addr) (H2 : Hp), Same (cut S H) (cut S2 H2) → Fr S2 H2 → ∀ i, (∀ d, ds[i]? = some d → J.go i H2 ∧ ∀ x H3, J.yld i H2 x H3 → Same H2 H3 ∧ Dn K (cut S2 H3) x d) ∧ (i = ds.length → J.stop i H2)
def tI (K : PySem.W.Frag) (s : Sh) (f : XLS) : TI := fun σ H R => ∃ T H0 w env iod ds iod', Rel K T H0 s w env iod σ H ∧ f env iod = some (ds, iod') ∧
  ∀ J H', Post K T H0 s w env iod' σ H H' → Src K J (w.S T) H' ds → R J H'
abbrev SimI (X : Cx) (s : Sh) (tg e : Expr) (f : XLS) : Prop := PI X tg e (tI X.K s f)
theorem PI_mono {tg e : Expr} {t t' : TI} (h : PI X tg e t) (m : ∀ σ H R, t' σ H R → t σ H R) : PI X tg e t' := ⟨fun pins s σ H R I q => h.run pins s σ H R I (m σ H R q)⟩

/-! ### for -/
def forL (b : BD) (body : SS) (ws : List Nat) : List D → Env → D → Option (Fl × Env × D)
  | [], env, io => some (.nx, env, io)
  | d :: ds, env, io => (b d env).bind fun env1 => (body env1 io).bind fun r => match r with
    | (.nx, env2, io2) => forL b body ws ds (wipeE ws env2) io2
    | (.ct, env2, io2) => forL b body ws ds (wipeE ws env2) io2
    | (.bk, env2, io2) => some (.nx, wipeE ws env2, io2)
    | (.rt d, env2, io2) => some (.rt d, env2, io2)
def sFor (src : XLS) (b : BD) (body : SS) (ws : List Nat) : SS := fun env io => (src env io).bind fun a => forL b body ws a.1 (wipeE ws env) a.2
theorem s_for {vs : List Nat} {tg iter : Expr} {body : List Stmt} {src : XLS} {b : BD} {g : SS} {pos : Pos} (ws : List Nat) (I : In P w0 K mg base k X N sc φ) (hi : SimI X s tg iter src) (hg : SimG X s vs tg b) (hb : SimSs X s s s body g) (hw : okW s ws = true := by rfl)
    (hs : ∀ x, foldedSetIterable iter X.env x = pure x := by intro _; rfl) : SimS X s s sl (.For tg iter body [] pos) (sFor src b g ws) :=
  PS_mono (ps_for I.passes I.calm hi hg hb hs) fun Z σ H h => by
    obtain ⟨T, H0, w, env, iod, fl, env', iod', R, e, q⟩ := h
    unfold sFor at e
    cases e1 : src env iod with
    | none => rw [e1] at e; cases e
    | some a =>
      rw [e1, Option.bind_some] at e
      obtain ⟨ds, iod1⟩ := a
      refine ⟨T, H0, w, env, iod, ds, iod1, R, e1, fun J H1 P1 src1 => ?_⟩
      obtain ⟨hz, src1⟩ := src1
      refine ⟨fun i m σ' H' => m = ds.length - i ∧ i ≤ ds.length ∧ ∃ w1 env1 iod1, IoOk H0 w w1 ∧ Rel X.K T H0 s w1 env1 iod1 σ' H' ∧ Same (cut (w.S T) H1) (cut (w1.S T) H') ∧ forL b g ws (ds.drop i) env1 iod1 = some (fl, env', iod'),
        ⟨ds.length, by simp, Nat.zero_le _, w, wipeE ws env, iod1, .inr rfl, P1.1.wipe ws hw, Same.refl _, by rw [List.drop_zero]; exact e⟩, ?_⟩
      rintro i m σ1 H2 ⟨rfl, hle, w1, env1, iod2, hio, R1, cs, e2⟩
      by_cases hlt : i < ds.length
      · have hd : ds[i]? = some ds[i] := List.getElem?_eq_getElem hlt
        rw [List.drop_eq_getElem_cons hlt] at e2
        obtain ⟨hgo, hyl⟩ := (src1 (w1.S T) H2 cs R1.frS i).1 _ hd
        have e2 : ((b ds[i] env1).bind fun env1 => (g env1 iod2).bind fun r => match r with
          | (.nx, env2, io2) => forL b g ws (ds.drop (i + 1)) (wipeE ws env2) io2
          | (.ct, env2, io2) => forL b g ws (ds.drop (i + 1)) (wipeE ws env2) io2
          | (.bk, env2, io2) => some (.nx, wipeE ws env2, io2)
          | (.rt d, env2, io2) => some (.rt d, env2, io2)) = some (fl, env', iod') := e2
        cases e3 : b ds[i] env1 with
        | none => rw [e3] at e2; cases e2
        | some env2 =>
          rw [e3, Option.bind_some] at e2
          cases e4 : g env2 iod2 with
          | none => rw [e4] at e2; cases e2
          | some r =>
            rw [e4, Option.bind_some] at e2
            refine .inr ⟨hgo, fun σ' H' => ∃ w2 env3 iod3, IoOk H0 w w2 ∧ Rel X.K T H0 s w2 env3 iod3 σ' H' ∧ Same (cut (w.S T) H1) (cut (w2.S T) H') ∧ forL b g ws (ds.drop (i + 1)) env3 iod3 = some (fl, env', iod'),
              fun σ' H' hn => ⟨ds.length - (i + 1), by omega, rfl, hlt, hn⟩, fun x H3 hy => ?_⟩
            obtain ⟨g3, d3⟩ := hyl x H3 hy
            have R3 := R1.grow g3
            refine ⟨T, H0, w1, env1, iod2, ds[i], env2, R3, d3, e3, fun σ2 _ R4 => ?_⟩
            obtain ⟨fl1, env4, iod4⟩ := r
            refine ⟨T, H0, w1, env2, iod2, fl1, env4, iod4, R4, e4, fun w5 σ5 H5 hio5 cs5 => ?_⟩
            have hio6 := hio.trans hio5
            have cs6 := (cs.trans (cutS g3)).trans cs5
            cases fl1 with
            | nx => exact fun R5 => ⟨w5, _, iod4, hio6, R5.wipe ws hw, cs6, e2⟩
            | ct => exact fun R5 => ⟨w5, _, iod4, hio6, R5.wipe ws hw, cs6, e2⟩
            | bk =>
              cases e2
              exact fun R5 => q w5 σ5 H5 hio6 (P1.2.trans cs6) (R5.wipe ws hw)
            | rt d =>
              cases e2
              exact fun sr v R5 dv => q w5 σ5 H5 hio6 (P1.2.trans cs6) sr v R5 dv
      · have ei : i = ds.length := by omega
        subst ei
        rw [List.drop_length] at e2
        cases e2
        exact .inl ⟨(src1 (w1.S T) H2 cs R1.frS _).2 rfl, q w1 σ1 H2 hio (P1.2.trans cs) R1⟩

/-! ### while -/
def whileL (c : BS) (body : SS) (ws : List Nat) : Nat → Env → D → Option (Fl × Env × D)
  | 0, _, _ => none
  | n + 1, env, io => (c env io).bind fun a => if a.1 then (body env a.2).bind fun r => match r with
    | (.nx, env2, io2) => whileL c body ws n (wipeE ws env2) io2
    | (.ct, env2, io2) => whileL c body ws n (wipeE ws env2) io2
    | (.bk, env2, io2) => some (.nx, wipeE ws env2, io2)
    | (.rt d, env2, io2) => some (.rt d, env2, io2)
    else some (.nx, env, a.2)
def sWhile (c : BS) (body : SS) (ws : List Nat) (n : Nat) : SS := fun env io => whileL c body ws n (wipeE ws env) io
theorem s_while {c : Expr} {body : List Stmt} {t : BS} {g : SS} {pos : Pos} (ws : List Nat) (n : Nat) (I : In P w0 K mg base k X N sc φ) (hc : SimB X s c t) (hb : SimSs X s s s body g) (hw : okW s ws = true := by rfl) : SimS X s s sl (.While c body [] pos) (sWhile t g ws n) :=
  PS_mono (ps_while I.passes hc hb) fun Z σ H h => by
    obtain ⟨T, H0, w, env, iod, fl, env', iod', R, e, q⟩ := h
    unfold sWhile at e
    refine ⟨fun m σ' H' => ∃ w1 env1 iod1, IoOk H0 w w1 ∧ Rel X.K T H0 s w1 env1 iod1 σ' H' ∧ Same (cut (w.S T) H) (cut (w1.S T) H') ∧ whileL t g ws m env1 iod1 = some (fl, env', iod'),
      ⟨n, w, _, iod, .inr rfl, R.wipe ws hw, Same.refl _, e⟩, ?_⟩
    rintro m σ1 H1 ⟨w1, env1, iod1, hio, R1, cs, e2⟩
    cases m with
    | zero => cases e2
    | succ m =>
      have e2 : ((t env1 iod1).bind fun a => if a.1 then (g env1 a.2).bind fun r => match r with
        | (.nx, env2, io2) => whileL t g ws m (wipeE ws env2) io2
        | (.ct, env2, io2) => whileL t g ws m (wipeE ws env2) io2
        | (.bk, env2, io2) => some (.nx, wipeE ws env2, io2)
        | (.rt d, env2, io2) => some (.rt d, env2, io2)
        else some (.nx, env1, a.2)) = some (fl, env', iod') := e2
      cases e3 : t env1 iod1 with
      | none => rw [e3] at e2; cases e2
      | some a =>
        rw [e3, Option.bind_some] at e2
        obtain ⟨a1, a2⟩ := a
        refine ⟨T, H0, w1, env1, iod1, a1, a2, R1, e3, fun H2 P2 => ?_⟩
        cases a1 with
        | false =>
          rw [if_neg Bool.false_ne_true]
          cases e2
          exact q w1 σ1 H2 hio (cs.trans P2.2) P2.1
        | true =>
          rw [if_pos rfl]
          have e2 : ((g env1 a2).bind fun r => match r with
            | (.nx, env2, io2) => whileL t g ws m (wipeE ws env2) io2
            | (.ct, env2, io2) => whileL t g ws m (wipeE ws env2) io2
            | (.bk, env2, io2) => some (.nx, wipeE ws env2, io2)
            | (.rt d, env2, io2) => some (.rt d, env2, io2)) = some (fl, env', iod') := e2
          cases e4 : g env1 a2 with
          | none => rw [e4] at e2; cases e2
          | some r =>
            rw [e4, Option.bind_some] at e2
            obtain ⟨fl1, env4, iod4⟩ := r
            refine ⟨fun σ' H' => ∃ w2 env3 iod3, IoOk H0 w w2 ∧ Rel X.K T H0 s w2 env3 iod3 σ' H' ∧ Same (cut (w.S T) H) (cut (w2.S T) H') ∧ whileL t g ws m env3 iod3 = some (fl, env', iod'),
              fun σ' H' hn => ⟨m, Nat.lt_succ_self m, hn⟩, ?_⟩
            refine ⟨T, H0, w1, env1, a2, fl1, env4, iod4, P2.1, e4, fun w5 σ5 H5 hio5 cs5 => ?_⟩
            have hio6 := hio.trans hio5
            have cs6 := (cs.trans P2.2).trans cs5
            cases fl1 with
            | nx => exact fun R5 => ⟨w5, _, iod4, hio6, R5.wipe ws hw, cs6, e2⟩
            | ct => exact fun R5 => ⟨w5, _, iod4, hio6, R5.wipe ws hw, cs6, e2⟩
            | bk =>
              cases e2
              exact fun R5 => q w5 σ5 H5 hio6 cs6 (R5.wipe ws hw)
            | rt d =>
              cases e2
              exact fun sr v R5 dv => q w5 σ5 H5 hio6 cs6 sr v R5 dv

/-! ### a def by its body -/
def env0 (n m : Nat) (ds : List D) : Env := ds.map some ++ List.replicate (m - n) none
def fnP (n m : Nat) (body : SS) : List D → Option D := fun ds => if ds.length == n then (body (env0 n m ds) .non).bind fun r => match r.1 with
  | .rt d => some d
  | .nx => some .non
  | _ => none
  else none
theorem fnP_len {n m : Nat} {body : SS} {ds : List D} {d : D} (h : fnP n m body ds = some d) : ds.length = n := by
  unfold fnP at h
  cases e : (ds.length == n) with
  | true => exact eq_of_beq e
  | false => rw [e] at h; cases h
theorem fnP_inv {n m : Nat} {body : SS} {ds : List D} {d : D} (h : fnP n m body ds = some d) : ∃ fl env io, body (env0 n m ds) .non = some (fl, env, io) ∧ ((fl = .rt d) ∨ (fl = .nx ∧ d = .non)) := by
  have hl := fnP_len h
  unfold fnP at h
  rw [hl, beq_self_eq_true, if_pos rfl] at h
  cases e : body (env0 n m ds) .non with
  | none => rw [e] at h; cases h
  | some r =>
    rw [e, Option.bind_some] at h
    obtain ⟨fl, env, io⟩ := r
    cases fl with
    | nx => cases h; exact ⟨_, _, _, rfl, .inr ⟨rfl, rfl⟩⟩
    | rt d' => cases h; exact ⟨_, _, _, rfl, .inl rfl⟩
    | bk => cases h
    | ct => cases h
abbrev s0 : Sh := ⟨none, []⟩
theorem rel0 {T : List Addr} {H : Hp} {vs : List V} {ds : List D} {M : List Str} (hS : Fr T H) (nd : T.Nodup) (h : DnL K (cut T H) vs ds) : Rel K T H s0 ⟨none, []⟩ (env0 vs.length M.length ds) .non (L2.start M vs) H where
  len := by
    unfold env0 L2.start
    rw [List.length_append, List.length_append, List.length_map, List.length_map, List.length_replicate, List.length_replicate, h.length]
  sh := rfl
  ndO := List.nodup_nil
  val := fun i d _ e => by
    unfold env0 at e
    have hi : i < ds.length := by
      by_cases hi : i < ds.length
      · exact hi
      · rw [List.getElem?_append_right (by rw [List.length_map]; omega), List.getElem?_replicate] at e
        split at e <;> cases e
    rw [List.getElem?_append_left (by rw [List.length_map]; exact hi), List.getElem?_map] at e
    cases e1 : ds[i]? with
    | none => rw [e1] at e; cases e
    | some d' =>
      rw [e1] at e
      cases e
      obtain ⟨v, h1, h2⟩ := h.get e1
      refine ⟨v, ?_, h2⟩
      unfold L2.start
      have hv : i < vs.length := by rw [h.length]; exact hi
      rw [List.getElem?_append_left (by rw [List.length_map]; exact hv), List.getElem?_map, h1]
      rfl
  own := fun i p hp => by cases hp
  ioY := fun q hq => by cases hq
  ioN := fun _ => rfl
  nd := nd
  tal := fun t ht => hS t ht
  base := fun b o e _ => e
  fresh := fun i p hp => by cases hp
section
variable {x qual : Str} {params : Arguments} {body : List Stmt} {scope : Scope} {f : Addr} {fd : FuncData} {M ps : List Str} {g : SS} {w : World}
/-- THE RULE for a def: its body's pure semantics -/
theorem okP (F : FunD K x qual params body scope [] [] f fd) (S : FnScope M ps scope) (bi : L2.Binds K fd ps []) (h : ∀ X, In P w K mg base k X M scope (fun _ => true) → SimSs X s0 s' sl body g) : OkP P w K mg base (k + 1) f fd ps (fnP ps.length M.length g) := by
  refine ⟨F.ok S (fun vs H Q E h => h.1) (fun cdv A outer st H vs Q E hr h1 => ?_), fun ds d e => fnP_len e, F.kp, bi⟩
  refine ⟨tS K s0 s' sl g, PSs.nox (h _ ⟨rfl, rfl, rfl, S.nd, rfl, rfl, rfl, rfl, rfl, rfl, hr, rfl⟩), ?_⟩
  obtain ⟨hl, T, ds, d, nd, hS, hd, e, q⟩ := h1
  obtain ⟨fl, env, io, e1, e2⟩ := fnP_inv e
  refine ⟨T, H, ⟨none, []⟩, _, .non, fl, env, io, rel0 hS nd hd, by rw [hl]; exact e1, fun w' σ' H' hio cs => ?_⟩
  have fin : ∀ {sr : Sh} {v : V}, Rel K T H sr w' env io σ' H' → Dn K (cut (w'.S T) H') v d → Q v H' := fun R dv => by
    refine q _ H' (fun b o e => R.base b o e fun z => ?_) (dv.mono (cut_mono (fun b hb => .inl (Ow.mem_T hb)) fun _ _ _ e => e))
    rcases hio with ⟨_, y⟩ | y
    · rw [y b z] at e; cases e
    · rw [y] at z; cases z
  rcases e2 with rfl | ⟨rfl, rfl⟩
  · exact fun sr v R dv => fin R dv
  · exact fun R => fin R .non
end
end PL

/-! PL7: comprehensions. -/
namespace PL
open PySem PySem.Spec PyProof.Rows L2
variable {X : Cx} {s s' s2 sl : Sh} {N : List Str} {sc : Scope} {φ : Str → Bool} {P : Program} {w0 : World} {K : PySem.W.Frag} {mg : Str → Option Value} {base : Heap} {k : Nat}

section
variable {T : List Addr} {H0 H H' : Hp} {w : Ow} {env : Env} {iod : D} {σ σ' : L2.St} {p : Addr} {o : HO}
theorem wipe_off (vs : List Nat) : Off vs σ (L2.wipe σ vs) := ⟨wipe_length σ vs, fun _ hi => wipe_out hi⟩
theorem wipe_eq {vs : List Nat} (h : Off vs σ σ') : L2.wipe σ' vs = L2.wipe σ vs := by
  refine List.ext_getElem? fun i => ?_
  by_cases hi : i ∈ vs
  · have e : ∀ τ : L2.St, τ.length = σ.length → (L2.wipe τ vs)[i]? = if i < σ.length then some none else none := fun τ hl => by
      have hz : ∀ v, (L2.wipe τ vs)[i]? ≠ some (some v) := fun v z => (wipe_some z).2 hi
      by_cases hlt : i < σ.length
      · rw [if_pos hlt]
        have hl2 : i < (L2.wipe τ vs).length := by rw [wipe_length, hl]; exact hlt
        cases e : (L2.wipe τ vs)[i]'hl2 with
        | none => rw [List.getElem?_eq_getElem hl2, e]
        | some v => exact absurd (by rw [List.getElem?_eq_getElem hl2, e]) (hz v)
      · rw [if_neg hlt]
        exact List.getElem?_eq_none_iff.mpr (by rw [wipe_length, hl]; omega)
    rw [e σ' h.1, e σ rfl]
  · rw [wipe_out hi, wipe_out hi, h.2 i hi]
theorem get_wipeE : ∀ (vs : List Nat) (env : Env) (i : Nat), (wipeE vs env)[i]? = if i ∈ vs ∧ i < env.length then some none else env[i]?
  | [], env, i => by simp [wipeE]
  | j :: vs, env, i => by
    have ih := get_wipeE vs (env.set j none) i
    show (wipeE vs (env.set j none))[i]? = _
    rw [ih, List.length_set]
    by_cases hlt : i < env.length
    · by_cases hij : i = j
      · subst hij
        by_cases hi : i ∈ vs
        · rw [if_pos ⟨hi, hlt⟩, if_pos ⟨List.mem_cons_self, hlt⟩]
        · rw [if_neg fun z => hi z.1, if_pos ⟨List.mem_cons_self, hlt⟩, List.getElem?_set_self hlt]
      · by_cases hi : i ∈ vs
        · rw [if_pos ⟨hi, hlt⟩, if_pos ⟨List.mem_cons_of_mem _ hi, hlt⟩]
        · rw [if_neg fun z => hi z.1, if_neg, List.getElem?_set_ne (Ne.symm hij)]
          rintro ⟨z, _⟩
          rcases List.mem_cons.mp z with z | z
          · exact hij z
          · exact hi z
    · rw [if_neg fun z => hlt z.2, if_neg fun z => hlt z.2]
      rw [List.getElem?_eq_none_iff.mpr (by rw [List.length_set]; omega), List.getElem?_eq_none_iff.mpr (by omega)]
theorem wipeE_length : ∀ (vs : List Nat) (env : Env), (wipeE vs env).length = env.length
  | [], _ => rfl
  | j :: vs, env => by
    show (wipeE vs (env.set j none)).length = _
    rw [wipeE_length vs, List.length_set]
/-- the block's own slots are forgotten on both sides -/
theorem Rel.wipeB {vs : List Nat} (R : Rel K T H0 s w env iod σ H) (hw : okW s vs = true) : Rel K T H0 s w (wipeE vs env) iod (L2.wipe σ vs) H := by
  have out : ∀ i, i ∈ vs → i ∉ s.O ∧ s.J ≠ some i := fun i hi => by
    unfold okW at hw
    have h := List.all_eq_true.mp hw i hi
    exact okS_ok h
  refine ⟨by rw [wipeE_length, wipe_length]; exact R.len, R.sh, R.ndO, fun i d hi e => ?_, fun i q hq => ?_, fun q hq => ?_, R.ioN, R.nd, R.tal, R.base, R.fresh⟩
  · rw [get_wipeE] at e
    by_cases hv : i ∈ vs
    · by_cases hlt : i < env.length
      · rw [if_pos ⟨hv, hlt⟩] at e; cases e
      · rw [if_neg fun z => hlt z.2, List.getElem?_eq_none_iff.mpr (by omega)] at e; cases e
    · rw [if_neg fun z => hv z.1] at e
      rw [wipe_out hv]
      exact R.val i d hi e
  · obtain ⟨h1, d, h2, h3⟩ := R.own i q hq
    have hv : i ∉ vs := fun z => (out i z).1 (by rw [← R.sh]; exact List.mem_map.mpr ⟨(i, q), hq, rfl⟩)
    refine ⟨by rw [wipe_out hv]; exact h1, d, ?_, h3⟩
    rw [get_wipeE, if_neg fun z => hv z.1]
    exact h2
  · obtain ⟨h3, j, h4, h5, h6, h7⟩ := R.ioY q hq
    have hv : j ∉ vs := fun z => (out j z).2 h4
    refine ⟨h3, j, h4, by rw [wipe_out hv]; exact h5, ?_, h7⟩
    rw [get_wipeE, if_neg fun z => hv z.1]
    exact h6
/-- a cell that is kept apart has changed -/
theorem Rel.tSet {D : Addr} (R : Rel K (D :: T) H0 s w env iod σ H) (h0 : H0 D = none) (hnt : ∀ xs, o ≠ .tup xs) : Rel K (D :: T) H0 s w env iod σ (upd H D o) := by
  have hD : D ∈ w.S (D :: T) := Ow.S_cons.mpr (.inl rfl)
  have ec : cut (w.S (D :: T)) (upd H D o) = cut (w.S (D :: T)) H := cut_upd_in hD
  obtain ⟨_, hDS, _⟩ := R.unlay
  refine ⟨R.len, R.sh, R.ndO, fun i d hi e => by rw [ec]; exact R.val i d hi e, fun i q hq => ?_, fun q hq => ?_, R.ioN, R.nd, fun t ht => ?_, fun b o' e n => ?_, R.fresh⟩
  · obtain ⟨h1, d, h2, h3⟩ := R.own i q hq
    have hq' : q ≠ D := fun z => hDS (by rw [← z]; exact Ow.mem_A hq)
    rw [ec]
    exact ⟨h1, d, h2, h3.mono (Same.refl _) fun o e => by rw [upd_ne hq']; exact e⟩
  · obtain ⟨h3, r⟩ := R.ioY q hq
    have hq' : q ≠ D := fun z => hDS (by rw [← z]; exact Ow.mem_io hq)
    rw [ec]
    exact ⟨h3.mono (Same.refl _) fun o e => by rw [upd_ne hq']; exact e, r⟩
  · by_cases htD : t = D
    · rw [htD]; exact cell_upd hnt
    · exact (R.tal t ht).keep fun o e => by rw [upd_ne htD]; exact e
  · have hb : b ≠ D := fun z => by rw [z, h0] at e; cases e
    rw [upd_ne hb]
    exact R.base b o' e n
/-- what is kept apart is held as it stands -/
theorem Rel.pin {D : Addr} (R : Rel K (D :: T) H0 s w env iod σ H) (hD : H D = some o) : Rel K (D :: T) (upd H0 D o) s w env iod σ H := by
  obtain ⟨_, hDS, _⟩ := R.unlay
  refine ⟨R.len, R.sh, R.ndO, R.val, R.own, R.ioY, R.ioN, R.nd, R.tal, fun b o' e n => ?_, fun i p hp => ?_⟩
  · by_cases hb : b = D
    · subst hb
      rw [upd_same] at e
      rw [hD, e]
    · rw [upd_ne hb] at e
      exact R.base b o' e n
  · have hp' : p ≠ D := fun z => hDS (by rw [← z]; exact Ow.mem_A hp)
    rw [upd_ne hp']
    exact R.fresh i p hp
theorem Rel.unpin {D : Addr} (R : Rel K (D :: T) (upd H0 D o) s w env iod σ H) (h0 : H0 D = none) : Rel K (D :: T) H0 s w env iod σ H ∧ H D = some o := by
  obtain ⟨_, hDS, _⟩ := R.unlay
  refine ⟨⟨R.len, R.sh, R.ndO, R.val, R.own, R.ioY, R.ioN, R.nd, R.tal, fun b o' e n => ?_, fun i p hp => ?_⟩, ?_⟩
  · have hb : b ≠ D := fun z => by rw [z, h0] at e; cases e
    exact R.base b o' (by rw [upd_ne hb]; exact e) n
  · have hp' : p ≠ D := fun z => hDS (by rw [← z]; exact Ow.mem_A hp)
    have h := R.fresh i p hp
    rw [upd_ne hp'] at h
    exact h
  · exact R.base D o upd_same fun z => hDS (Ow.mem_io z)
/-- the frame is given back -/
theorem Rel.back {env1 : Env} {iod1 : D} {σ1 : L2.St} {H1 : Hp} (R : Rel K T H0 s w env iod σ H) (R1 : Rel K T H0 s w env1 iod1 σ1 H1) (cs : Same (cut (w.S T) H) (cut (w.S T) H1)) (ho : ∀ i, i ∈ s.O → env1[i]? = env[i]?) : Rel K T H0 s w env iod1 σ H1 := by
  refine ⟨R.len, R.sh, R.ndO, fun i d hi e => ?_, fun i q hq => ?_, fun q hq => ?_, R.ioN, R.nd, R1.tal, R1.base, R.fresh⟩
  · obtain ⟨v, h1, h2⟩ := R.val i d hi e
    exact ⟨v, h1, h2.mono cs⟩
  · obtain ⟨h1, d, h2, h3⟩ := R.own i q hq
    obtain ⟨_, d', h4, h5⟩ := R1.own i q hq
    rw [ho i (by rw [← R.sh]; exact List.mem_map.mpr ⟨(i, q), hq, rfl⟩), h2] at h4
    cases h4
    exact ⟨h1, d, h2, h5⟩
  · exact ⟨(R1.ioY q hq).1, (R.ioY q hq).2⟩
end

/-! ### [e for target in source if test] -/
def compL (vs : List Nat) (b : BD) (t : BS) (e : XS) (env : Env) : List D → D → Option (List D × D)
  | [], io => some ([], io)
  | d :: ds, io => (b d (wipeE vs env)).bind fun env1 => (t env1 io).bind fun k => if k.1 then (e env1 k.2).bind fun y => (compL vs b t e env ds y.2).map fun r => (y.1 :: r.1, r.2)
      else compL vs b t e env ds k.2
def xComp (vs : List Nat) (src : XLS) (b : BD) (t : BS) (e : XS) : XS := fun env io => (src env io).bind fun a => (compL vs b t e env a.1 a.2).map fun r => (.lst r.1, r.2)
def bYes : BS := fun _ io => some (true, io)
abbrev SimT (X : Cx) (s : Sh) (ifs : List Expr) (t : BS) : Prop := PTs X ifs (tB X.K s t)
theorem t_nil : SimT X s [] bYes := ⟨fun pins st σ H Q I h => by
  obtain ⟨T, H0, w, env, iod, k, iod', R, e, q⟩ := h
  cases e
  exact pts_nil.run pins st σ H Q I (q H R.post)⟩
theorem t_one {c : Expr} {t : BS} (h : SimB X s c t) : SimT X s [c] t := pts_one h
theorem tB_mono {t : BS} {σ : L2.St} {H : Hp} {Q Q' : Bool → Hp → Prop} (h : tB K s t σ H Q) (m : ∀ b H', Q b H' → Q' b H') : tB K s t σ H Q' := by
  obtain ⟨T, H0, w, env, iod, k, iod', R, e, q⟩ := h
  exact ⟨T, H0, w, env, iod, k, iod', R, e, fun H' P => m _ _ (q H' P)⟩
/-- a binder changes no owned slot's data -/
def BdOk (s : Sh) (b : BD) : Prop := ∀ d env env', b d env = some env' → ∀ i, i ∈ s.O → env'[i]? = env[i]?
theorem lc_sound {vs : List Nat} {src : XLS} {b : BD} {t : BS} {e : XS} (hw : okW s vs = true) (hbd : BdOk s b) (σ : L2.St) (H : Hp) (Q : VK) (h : tN K s (xComp vs src b t e) σ H Q) :
    tLc (tI K s src) (tG K s vs b) (tB K s t) (tX K s e) vs σ H Q := by
  obtain ⟨T, H0, w, env, iod, d, iod', R, e1, q⟩ := h
  unfold xComp at e1
  cases e2 : src env iod with
  | none => rw [e2] at e1; cases e1
  | some a =>
    rw [e2, Option.bind_some] at e1
    obtain ⟨ds, iod1⟩ := a
    cases e3 : compL vs b t e env ds iod1 with
    | none => rw [e3] at e1; cases e1
    | some r =>
      rw [e3] at e1
      cases e1
      refine ⟨T, H0, w, env, iod, ds, iod1, R, e2, fun J H1 P1 sr D hD => ?_⟩
      obtain ⟨hz, sr⟩ := sr
      have hD0 := P1.1.none0 hD
      have R1 : Rel K (D :: T) H0 s w env iod1 σ (upd H1 D (.lst [])) := P1.1.lay (same_new hD) hD (cell_upd fun _ z => by cases z)
      have c1 : Same (cut (w.S T) H1) (cut (w.S (D :: T)) (upd H1 D (.lst []))) := cut_lay (same_new hD) hD
      have hDS : D ∈ w.S (D :: T) := Ow.S_cons.mpr (.inl rfl)
      have out : ∀ i, i ∈ vs → i ∉ s.O := fun i hi => (okS_ok (List.all_eq_true.mp hw i hi)).1
      have wsame : ∀ i, i ∈ s.O → (wipeE vs env)[i]? = env[i]? := fun i hi => by
        rw [get_wipeE, if_neg fun z => out i z.1 hi]
      refine ⟨fun i m H' => m = ds.length - i ∧ i ≤ ds.length ∧ ∃ acc dacc iod2 rest, Rel K (D :: T) H0 s w env iod2 σ H' ∧ Same (cut (w.S T) H1) (cut (w.S (D :: T)) H') ∧ H' D = some (.lst acc) ∧ DnL K (cut (w.S (D :: T)) H') acc dacc ∧ acc.length ≤ i ∧
          compL vs b t e env (ds.drop i) iod2 = some (rest, r.2) ∧ dacc ++ rest = r.1,
        ⟨ds.length, by simp, Nat.zero_le _, [], [], iod1, r.1, R1, c1, upd_same, .nil, Nat.le_refl _, by rw [List.drop_zero]; exact e3, rfl⟩, ?_⟩
      rintro i m H2 ⟨rfl, hle, acc, dacc, iod2, rest, R2, c2, hDa, hacc, hla, e4, e5⟩
      by_cases hlt : i < ds.length
      · have hd : ds[i]? = some ds[i] := List.getElem?_eq_getElem hlt
        rw [List.drop_eq_getElem_cons hlt] at e4
        obtain ⟨hgo, hyl⟩ := (sr (w.S (D :: T)) H2 c2 R2.frS i).1 _ hd
        have e4 : ((b ds[i] (wipeE vs env)).bind fun env1 => (t env1 iod2).bind fun k => if k.1 then (e env1 k.2).bind fun y => (compL vs b t e env (ds.drop (i + 1)) y.2).map fun r => (y.1 :: r.1, r.2)
          else compL vs b t e env (ds.drop (i + 1)) k.2) = some (rest, r.2) := e4
        cases e6 : b ds[i] (wipeE vs env) with
        | none => rw [e6] at e4; cases e4
        | some env1 =>
          rw [e6, Option.bind_some] at e4
          cases e7 : t env1 iod2 with
          | none => rw [e7] at e4; cases e4
          | some kk =>
            rw [e7, Option.bind_some] at e4
            refine .inr ⟨hgo, fun H' => i + 1 ≤ ds.length ∧ ∃ acc dacc iod2 rest, Rel K (D :: T) H0 s w env iod2 σ H' ∧ Same (cut (w.S T) H1) (cut (w.S (D :: T)) H') ∧ H' D = some (.lst acc) ∧ DnL K (cut (w.S (D :: T)) H') acc dacc ∧ acc.length ≤ i + 1 ∧
              compL vs b t e env (ds.drop (i + 1)) iod2 = some (rest, r.2) ∧ dacc ++ rest = r.1, fun H' hn => ⟨ds.length - (i + 1), by omega, rfl, hn.1, hn.2⟩, fun x H3 hy => ?_⟩
            obtain ⟨g3, d3⟩ := hyl x H3 hy
            have R3 := (R2.grow g3).pin (g3 _ _ hDa)
            refine ⟨D :: T, upd H0 D (.lst acc), w, wipeE vs env, iod2, ds[i], env1, R3.wipeB hw, d3, e6, fun σ4 o4 R4 => ⟨(wipe_eq o4).trans (wipe_eq (wipe_off vs)), ?_⟩⟩
            have own1 : ∀ i, i ∈ s.O → env1[i]? = env[i]? := fun i hi => (hbd _ _ _ e6 i hi).trans (wsame i hi)
            refine ⟨D :: T, upd H0 D (.lst acc), w, env1, iod2, kk.1, kk.2, R4, e7, fun H5 P5 => ?_⟩
            have c5 : Same (cut (w.S (D :: T)) H2) (cut (w.S (D :: T)) H5) := (cutS g3).trans P5.2
            cases hk : kk.1 with
            | true =>
              rw [hk] at e4
              refine L2.iteT ?_
              have e4 : ((e env1 kk.2).bind fun y => (compL vs b t e env (ds.drop (i + 1)) y.2).map fun r => (y.1 :: r.1, r.2)) = some (rest, r.2) := e4
              cases e8 : e env1 kk.2 with
              | none => rw [e8] at e4; cases e4
              | some y =>
                rw [e8, Option.bind_some] at e4
                cases e9 : compL vs b t e env (ds.drop (i + 1)) y.2 with
                | none => rw [e9] at e4; cases e4
                | some z =>
                  rw [e9] at e4
                  have ez : (y.1 :: z.1, z.2) = (rest, r.2) := Option.some.inj e4
                  obtain ⟨ez1, ez2⟩ := Prod.mk.inj ez
                  refine ⟨D :: T, upd H0 D (.lst acc), w, env1, kk.2, y.1, y.2, P5.1, e8, fun v H6 P6 d6 => ?_⟩
                  have c6 : Same (cut (w.S (D :: T)) H2) (cut (w.S (D :: T)) H6) := c5.trans P6.2
                  obtain ⟨R6', h6⟩ := P6.1.unpin hD0
                  have R6 : Rel K (D :: T) H0 s w env y.2 σ H6 := R2.back R6' c6 own1
                  have hr6 := hacc.mono c6
                  refine ⟨acc, h6, ?_, hlt, acc ++ [v], dacc ++ [y.1], y.2, z.1, R6.tSet hD0 (fun _ z => by cases z), ?_, upd_same, ?_, ?_, ?_, ?_⟩
                  · exact Nat.lt_of_lt_of_le (Nat.lt_of_le_of_lt hla hlt) hz
                  · rw [cut_upd_in hDS]; exact c2.trans c6
                  · rw [cut_upd_in hDS]; exact hr6.append (.cons d6 .nil)
                  · rw [List.length_append]
                    exact Nat.add_le_add_right hla 1
                  · rw [e9, ← ez2]
                  · rw [← e5, ← ez1, List.append_assoc]
                    rfl
            | false =>
              rw [hk] at e4
              refine L2.iteF ?_
              obtain ⟨R5, h5⟩ := P5.1.unpin hD0
              exact ⟨hlt, acc, dacc, kk.2, rest, R2.back R5 c5 own1, c2.trans c5, h5, hacc.mono c5, Nat.le_succ_of_le hla, e4, e5⟩
      · have ei : i = ds.length := by omega
        subst ei
        rw [List.drop_length] at e4
        cases e4
        rw [List.append_nil] at e5
        subst e5
        exact .inl ⟨(sr (w.S (D :: T)) H2 c2 R2.frS _).2 rfl, q D H2 R2 (P1.2.trans c2) hD0 (.lst hDa hacc)⟩

theorem bd_name {i : Nat} (ho : okS s i = true) : BdOk s (gN i) := fun d env env' h j hj => by
  cases h
  exact List.getElem?_set_ne fun z => (okS_ok ho).1 (by rw [z]; exact hj)
theorem bds_nil : ∀ ds env env', gNil ds env = some env' → ∀ i, i ∈ s.O → env'[i]? = env[i]? := fun ds env env' h i _ => by
  cases ds with
  | nil => cases h; rfl
  | cons _ _ => cases h
theorem bds_cons {b : BD} {r : BDs} (h1 : BdOk s b) (h2 : ∀ ds env env', r ds env = some env' → ∀ i, i ∈ s.O → env'[i]? = env[i]?) : ∀ ds env env', gCons b r ds env = some env' → ∀ i, i ∈ s.O → env'[i]? = env[i]? := fun ds env env' h i hi => by
  cases ds with
  | nil => cases h
  | cons d ds =>
    have h : (b d env).bind (fun e => r ds e) = some env' := h
    cases e1 : b d env with
    | none => rw [e1] at h; cases h
    | some env1 =>
      rw [e1, Option.bind_some] at h
      exact (h2 _ _ _ h i hi).trans (h1 _ _ _ e1 i hi)
theorem bd_tup {r : BDs} (h2 : ∀ ds env env', r ds env = some env' → ∀ i, i ∈ s.O → env'[i]? = env[i]?) : BdOk s (gTup r) := fun d env env' h => by
  cases d with
  | tup ds => exact h2 ds env env' h
  | _ => cases h

/-- the context of a block -/
theorem In.blk {scope : Scope} (I : In P w0 K mg base k X N sc φ) (st : Shared) (H : Hp) (C : Addr) (cl : List (Str × Addr)) (fp : List Addr) :
    In P w0 K mg base k (X.blk st H scope (compEnvC scope cl C X.env) fp) N (relS scope sc) (fun x => scope.names.lookup x == some .cell) :=
  ⟨rfl, I.hN, by show relS scope X.env.scope = _; rw [I.hs], I.nd, I.calm, I.prog, I.w, I.K, I.mg, I.base, I.room, rfl⟩
section
variable {i : Nat} {y : Str} {py : Pos} {elt tg iter : Expr} {ifs : List Expr} {scope : Scope} {pos spos : Pos} {src : XLS} {b : BD} {t : BS} {e : XS}
/-- what the parts of a comprehension's block are, in every context that the block may run in -/
theorem n_comp (own : List (Str × Nat)) (I : In P w0 K mg base k X N sc φ) (hi : SimI X s tg iter src) (ok : blkC N sc scope own = true)
    (hg : ∀ X', X'.K = X.K → In P w0 K mg base k X' N (relS scope sc) (fun x => scope.names.lookup x == some .cell) → SimG X' s (own.map (·.2)) tg b) (hbd : BdOk s b)
    (ht : ∀ X', X'.K = X.K → In P w0 K mg base k X' N (relS scope sc) (fun x => scope.names.lookup x == some .cell) → SimT X' s ifs t)
    (he : ∀ X', X'.K = X.K → In P w0 K mg base k X' N (relS scope sc) (fun x => scope.names.lookup x == some .cell) → SimX X' s elt e) (hw : okW s (own.map (·.2)) = true := by rfl) (hs : ∀ x, foldedSetIterable iter X.env x = pure x := by intro _; rfl) :
    SimN X s (.ListComp elt [⟨tg, iter, ifs, 0⟩] scope pos) (xComp (own.map (·.2)) src b t e) :=
  PE_mono (pe_lc I.calm (by rw [I.hN]; exact I.nd) hi (by rw [I.hN, I.hs]; exact blkOk_by ok) (fun st H C cl fp => hg (X.blk st H scope (compEnvC scope cl C X.env) fp) rfl (I.blk st H C cl fp)) (fun st H C cl fp => ht (X.blk st H scope (compEnvC scope cl C X.env) fp) rfl (I.blk st H C cl fp)) (fun st H C cl fp => he (X.blk st H scope (compEnvC scope cl C X.env) fp) rfl (I.blk st H C cl fp)) hs) (lc_sound hw hbd)
theorem tN_tX {f : XS} {σ : L2.St} {H : Hp} {Q : VK} (h : tX K s f σ H Q) : tN K s f σ H Q := by
  obtain ⟨T, H0, w, env, iod, d, iod', R, e, q⟩ := h
  exact ⟨T, H0, w, env, iod, d, iod', R, e, fun p H' R' cs _ o => q _ H' (lay_post R' cs o).1 (lay_post R' cs o).2⟩
/-- name = [..] on one line -/
theorem s_setC (own : List (Str × Nat)) (I : In P w0 K mg base k X N sc φ) (hN : N[i]? = some y) (hl : sc.names.lookup y = some .local) (hi : SimI X s tg iter src) (ok : blkC N sc scope own = true)
    (hg : ∀ X', X'.K = X.K → In P w0 K mg base k X' N (relS scope sc) (fun x => scope.names.lookup x == some .cell) → SimG X' s (own.map (·.2)) tg b) (hbd : BdOk s b)
    (ht : ∀ X', X'.K = X.K → In P w0 K mg base k X' N (relS scope sc) (fun x => scope.names.lookup x == some .cell) → SimT X' s ifs t)
    (he : ∀ X', X'.K = X.K → In P w0 K mg base k X' N (relS scope sc) (fun x => scope.names.lookup x == some .cell) → SimX X' s elt e) (ho : okS s i = true := by rfl) (hw : okW s (own.map (·.2)) = true := by rfl)
    (hkind : sc.kind = .function := by rfl) (hline : (py.line == pos.line) = true := by rfl) (hny : (scope.names.any fun (n, k) => n == y && (k == .local || k == .cell)) = false := by rfl) (hs : ∀ x, foldedSetIterable iter X.env x = pure x := by intro _; rfl) :
    SimS X s s sl (.Assign [.Name y py] (.ListComp elt [⟨tg, iter, ifs, 0⟩] scope pos) spos) (sAsg (xComp (own.map (·.2)) src b t e) (gN i)) :=
  PS_mono (ps_setLc (i := i) I.calm (by rw [I.hN]; exact I.nd) (by rw [I.hN]; exact hN) (by rw [I.hs]; exact hl) (sw_true (by rw [I.hs]; exact hkind) (by rw [I.hs]; exact hl) hline hny) hi (by rw [I.hN, I.hs]; exact blkOk_by ok) (fun st H C cl fp => hg (X.blk st H scope (compEnvC scope cl C X.env) fp) rfl (I.blk st H C cl fp)) (fun st H C cl fp => ht (X.blk st H scope (compEnvC scope cl C X.env) fp) rfl (I.blk st H C cl fp)) (fun st H C cl fp => he (X.blk st H scope (compEnvC scope cl C X.env) fp) rfl (I.blk st H C cl fp)) hs)
    (tAsg_sound (vs := [i]) (fun σ H Q h => lc_sound hw hbd σ H Q (tN_tX h)) (gName_sound ho (by simp)))
theorem s_newC (own : List (Str × Nat)) (I : In P w0 K mg base k X N sc φ) (hN : N[i]? = some y) (hl : sc.names.lookup y = some .local) (hi : SimI X s tg iter src) (ok : blkC N sc scope own = true)
    (hg : ∀ X', X'.K = X.K → In P w0 K mg base k X' N (relS scope sc) (fun x => scope.names.lookup x == some .cell) → SimG X' s (own.map (·.2)) tg b) (hbd : BdOk s b)
    (ht : ∀ X', X'.K = X.K → In P w0 K mg base k X' N (relS scope sc) (fun x => scope.names.lookup x == some .cell) → SimT X' s ifs t)
    (he : ∀ X', X'.K = X.K → In P w0 K mg base k X' N (relS scope sc) (fun x => scope.names.lookup x == some .cell) → SimX X' s elt e) (ho : okS s i = true := by rfl) (hw : okW s (own.map (·.2)) = true := by rfl)
    (hkind : sc.kind = .function := by rfl) (hline : (py.line == pos.line) = true := by rfl) (hny : (scope.names.any fun (n, k) => n == y && (k == .local || k == .cell)) = false := by rfl) (hs : ∀ x, foldedSetIterable iter X.env x = pure x := by intro _; rfl) :
    SimS X s (s.add i) sl (.Assign [.Name y py] (.ListComp elt [⟨tg, iter, ifs, 0⟩] scope pos) spos) (sNew (xComp (own.map (·.2)) src b t e) i) :=
  PS_mono (ps_setLc (i := i) I.calm (by rw [I.hN]; exact I.nd) (by rw [I.hN]; exact hN) (by rw [I.hs]; exact hl) (sw_true (by rw [I.hs]; exact hkind) (by rw [I.hs]; exact hl) hline hny) hi (by rw [I.hN, I.hs]; exact blkOk_by ok) (fun st H C cl fp => hg (X.blk st H scope (compEnvC scope cl C X.env) fp) rfl (I.blk st H C cl fp)) (fun st H C cl fp => ht (X.blk st H scope (compEnvC scope cl C X.env) fp) rfl (I.blk st H C cl fp)) (fun st H C cl fp => he (X.blk st H scope (compEnvC scope cl C X.env) fp) rfl (I.blk st H C cl fp)) hs)
    fun Z σ H h => by
      obtain ⟨T, H0, w, env, iod, fl, env', iod', R, e0, q⟩ := h
      unfold sNew at e0
      cases e1 : xComp (own.map (·.2)) src b t e env iod with
      | none => rw [e1] at e0; cases e0
      | some a =>
        rw [e1, Option.bind_some] at e0
        obtain ⟨hlt, e0⟩ := if_some e0
        cases e0
        refine lc_sound hw hbd σ H _ ⟨T, H0, w, env, iod, a.1, a.2, R, e1, fun p H1 R1 cs h0 o => ?_⟩
        obtain ⟨R2, ec⟩ := R1.own_new (Nat.le_of_ble_eq_true hlt) ho h0 o
        exact q ⟨w.io, (i, p) :: w.A⟩ _ H1 (.inr rfl) (by rw [ec]; exact cs) R2
end
end PL

/-! PL8: what is walked: lists, tuples, ranges, enumerate, zip, dicts' keys. -/
namespace PL
open PySem PySem.Spec PyProof.Rows L2
variable {X : Cx} {s s' s2 sl : Sh} {N : List Str} {sc : Scope} {φ : Str → Bool} {P : Program} {w0 : World} {K : PySem.W.Frag} {mg : Str → Option Value} {base : Heap} {k : Nat}

theorem PI_or {tg e : Expr} {t t' : TI} (h : PI X tg e t) (h' : PI X tg e t') : PI X tg e (fun σ H R => t σ H R ∨ t' σ H R) := ⟨fun pins st σ H R I q => q.elim (h.run pins st σ H R I) (h'.run pins st σ H R I)⟩

/-! ### enumerate of a tuple -/
def IteT (K : PySem.W.Frag) (a : Addr) : It :=
  ⟨fun i H => ∃ (xs : List V) (x : V), SqT K H a xs ∧ xs[i]? = some x, fun i H v H' => ∃ T x, v = .ref T ∧ H T = none ∧ H' = upd H T (.tup [.int (i : Nat), x]) ∧ ∀ xs, SqT K H a xs → xs[i]? = some x, fun i H => ∃ xs : List V, SqT K H a xs ∧ xs.length = i⟩
theorem begins_tup (l : Addr) (items : Array Value) : PySem.Begins (.ref l) { cls := .type "tuple_iterator", data := .fields #[.ref l, .int 0 0] } fun h => h.IsTuple l items where
  iter := fun prog w A E s Q hl h => wpAny_pyIter_tuple hl h
  keeps := fun h h' x hk => x.at fun o e => hk l o e
  free := rfl
set_option maxHeartbeats 1000000 in
theorem meets_enumerate_new1 {v : Value} {o : Obj} {H : Heap → Prop} (B : PySem.Begins v o H) :
    Meets (Builtin.«enumerate.__new__» ⟨[.type "enumerate", v], []⟩) (fun _ R s => H s.heap ∧
      R (.ok (.ret (.ref (s.heap.push o).objs.size))) { s with heap := (s.heap.push o).push { cls := .type "enumerate", data := .fields #[.none, .bool false, .ref s.heap.objs.size, rawInt 0, .none, .none] } }) :=
  .of_wp fun prog w A R s h => by
    obtain ⟨hp, g, d, tk, os⟩ := s; obtain ⟨h1, h⟩ := h
    have hsub := sub_enumerate
    have q1 : ∀ {A' : Around} {E : Value → Shared → Prop} {Q : Value → Shared → Prop}, Q (.ref hp.objs.size) ⟨hp.push o, g, d, tk, os⟩ → wpAny (model prog w) A' (pyIter v) Q E ⟨hp, g, d, tk, os⟩ :=
      fun q => B.iter prog w _ _ ⟨hp, g, d, tk, os⟩ _ h1 q
    wp_walk using q1
    refine wpAny_stack_any fun st => wpAny_pure ?_
    split
    · rename_i c _ _ _ _ _
      cases (c == Value.type "enumerate")
      · wp_walk using q1
        exact ⟨_, rfl, h⟩
      · wp_walk using q1
        exact ⟨_, rfl, h⟩
    · wp_walk using q1
      exact ⟨_, rfl, h⟩
theorem enum_begins1 {prog : Program} {w : World} {A : Around} {E : Value → Shared → Prop} {s : Shared} {v : Value} {o : Obj} {H : Heap → Prop} {Q : Value → Shared → Prop} (B : PySem.Begins v o H) (h1 : H s.heap)
    (h : ∀ h', IsEnum h' (s.heap.objs.size + 1) s.heap.objs.size 0 .none → h'.get? s.heap.objs.size = some o → h'.objs.size = s.heap.objs.size + 2 →
      (∀ b o, s.heap.get? b = some o → h'.get? b = some o) → Q (.ref (s.heap.objs.size + 1)) { s with heap := h' }) :
    wpAny (model prog w) A (call (.type "enumerate") [v]) Q E s := by
  refine callType_new F.called_enumerate (by decide) (F.typeCall_enumerate_1 _) (F.newCall_enumerate_1 _) (fun obj => F.args_object_init_2 obj _) F.entry_enumerate_new
    (meets_enumerate_new1 B) ⟨h1, ?_⟩
  have hz : (s.heap.push o).objs.size = s.heap.objs.size + 1 := Heap.size_push ..
  show _ ∧ _
  rw [hz]
  have he : IsEnum ((s.heap.push o).push { cls := .type "enumerate", data := .fields #[.none, .bool false, .ref s.heap.objs.size, rawInt 0, .none, .none] }) (s.heap.objs.size + 1) s.heap.objs.size 0 .none := by
    have := Heap.get?_push_size (s.heap.push o) (o := { cls := .type "enumerate", data := .fields #[.none, .bool false, .ref s.heap.objs.size, rawInt 0, .none, .none] }) rfl
    rw [hz] at this; exact this
  refine ⟨⟨_, he, rfl⟩, h _ he (Heap.get?_push_of_some _ (Heap.get?_push_size _ B.free)) (by rw [Heap.size_push, hz]) fun b o x => Heap.get?_push_of_some _ (Heap.get?_push_of_some _ x)⟩
theorem turn_enumT {P : Program} {w : World} {K : PySem.W.Frag} {elts : List Expr} {kk : Nat} {tpos : Pos} (a e it : Addr) :
    Turn P w K (.Tuple elts kk tpos) (IteT K a) [e, it] e (fun i h => (∃ old, IsEnum h e it ((i : Nat) : Int) old) ∧ h.IsTupleIter it a i ∧ e ≠ it) where
  mem := by simp
  obj := fun i h st b hb => by
    obtain ⟨⟨old, he⟩, ⟨o, ho, hc, hd⟩, _⟩ := st
    have e' : b = e ∨ b = it := by simpa using hb
    rcases e' with z | z
    · rw [z]; exact ⟨_, he, fun v q => nomatch q⟩
    · rw [z]; exact ⟨o, ho, fun v q => by rw [hd] at q; cases q⟩
  keep := fun i h h' st k => let ⟨⟨old, he⟩, hi, hne⟩ := st; ⟨⟨old, k e (by simp) _ he⟩, hi.at fun o q => k it (by simp) o q, hne⟩
  item := by
    intro X hP hw hK hc i pins s σ H E I hf st hg
    subst hP hw hK
    obtain ⟨⟨old, he⟩, hit, hne⟩ := st
    obtain ⟨xs, x, hq, hx⟩ := hg
    obtain ⟨its, rv, p, hz⟩ := I.tuple hq
    obtain ⟨u, hu, ru⟩ := rv.get hx
    have hel : e < s.heap.objs.size := Heap.lt_size he
    have hil : it < s.heap.objs.size := by obtain ⟨_, q, _⟩ := hit; exact Heap.lt_size q
    have pT : s.heap.IsTuple a its.toArray := p
    have hae : a ≠ it := fun z => by
      obtain ⟨o1, h1, c1, _⟩ := pT
      obtain ⟨o2, h2, c2, _⟩ := hit
      rw [z, h2] at h1
      cases h1
      rw [c1] at c2
      injection c2 with c2
      exact absurd c2 (by decide)
    have hae2 : a ≠ e := fun z => by
      obtain ⟨o1, h1, c1, _⟩ := pT
      have he2 : s.heap.get? e = some _ := he
      rw [z, he2] at h1
      cases h1
      injection c1 with c1
      exact absurd c1 (by decide)
    have hi : i < its.toArray.size := by
      have h1 := (List.getElem?_eq_some_iff.mp hu).1
      simpa using h1
    have hlt := Draws.tuple (prog := X.prog) (w := X.w) (A := X.A.in1) (by exact I.ok.hd hc) it a hae its.toArray
    refine PySem.wpAny_pyNext_enum_itemD hlt he ⟨hit, pT⟩ hi hne (by simp [hne, Ne.symm hae2]) fun x' h' tk hP ho hs' hT hsz hk => ?_
    have ex : x' = u := by
      have h1 : its.toArray[i]? = some x' := hP
      have h2 : its.toArray[i]? = some u := by simpa using hu
      rw [h1] at h2
      exact Option.some.inj h2
    subst ex
    refine ⟨_, rfl, wpAny_letOwnedTupleGo_enum (s := { s with heap := h', toks := tk + 1 }) ho fun h'' he' sb => ?_⟩
    have hT2 : h''.get? s.heap.objs.size = some { cls := .type "tuple", data := .seq #[.int i tk, x'] } := (sb.2 _ (Nat.ne_of_gt hel)).trans hT
    have new : ObjOk X.prog X.w (upd H s.heap.objs.size (.tup [.int (i : Nat), x])) h'' s.heap.objs.size (.tup [.int (i : Nat), x]) :=
      ⟨by show 2 ≤ sizeLine; decide, [.int i tk, x'], .cons ⟨_, rfl⟩ (.cons ru .nil), ⟨_, hT2, rfl, _, rfl⟩⟩
    have I1 : Inv X pins σ (upd H s.heap.objs.size (.tup [.int (i : Nat), x])) { s with heap := h'', toks := tk + 1 } :=
      I.turnedNew (ch := [e, it]) (fun b ob hb q => (sb.2 b (fun z => hb (by simp [z]))).trans (hk b ob (fun z => hb (by simp [z])) (fun z => hb (by simp [z])) q)) hf (Nat.le_refl _) new
    refine ⟨.ref s.heap.objs.size, _, I1, rfl, ⟨_, x, rfl, I.hok.fresh (Nat.le_refl _), rfl, fun ys hy => by rw [I.tuple_inj hy hq]; exact hx⟩, ⟨⟨x', ?_⟩, hs'.1.at fun o q => (sb.2 it (Ne.symm hne)).trans q, hne⟩, fun b hb => ?_⟩
    · have e1 : ((i + 1 : Nat) : Int) = (i : Int) + 1 := by omega
      rw [e1]; exact he'
    · have hb' : b < s.heap.objs.size := by
        have e' : b = e ∨ b = it := by simpa using hb
        rcases e' with z | z
        · rw [z]; exact hel
        · rw [z]; exact hil
      rw [upd_ne (Nat.ne_of_lt hb')]
      exact (hf b hb).1
  done := by
    intro X hP hw hK hc i pins s σ H E I hf st hg
    subst hP hw hK
    obtain ⟨⟨old, he⟩, hit, hne⟩ := st
    obtain ⟨xs, hq, hx⟩ := hg
    obtain ⟨its, rv, p, hz⟩ := I.tuple hq
    obtain ⟨f0, f1, f2, f3, f4, f5⟩ := hf it (by simp)
    have hl := rv.length
    have pT : s.heap.IsTuple a its.toArray := p
    have hae : a ≠ it := fun z => by
      obtain ⟨o1, h1, c1, _⟩ := pT
      obtain ⟨o2, h2, c2, _⟩ := hit
      rw [z, h2] at h1
      cases h1
      rw [c1] at c2
      injection c2 with c2
      exact absurd c2 (by decide)
    have D := Draws.tuple (prog := X.prog) (w := X.w) (A := X.A.in1) (by exact I.ok.hd hc) it a hae its.toArray
    have ei : its.toArray.size = i := by rw [List.size_toArray, ← hl]; exact hx
    refine PySem.wpAny_pyNext_enum_endD D he ⟨by rw [ei]; exact hit, pT⟩ fun h' eb => ⟨rfl, I.turned (t' := s.toks) (fun b o hb q => eb b o hb q) f0 f1 f3 f4 f5⟩
  self := fun A i s Q E st h => let ⟨⟨_, he⟩, _⟩ := st; wpAny_pyIter_enum he h
def iEnumT (K : PySem.W.Frag) (ta : TA) : TI := fun σ H R => ta σ H fun vs H1 => ∃ a xs, vs = [.ref a] ∧ SqT K H1 a xs ∧ R (IteT K a) H1
theorem pi_enumT {X : Cx} {e : Expr} {ta : TA} {p pos tpos : Pos} {elts : List Expr} {kk : Nat} (hg : Gl X "enumerate") (hm : X.mg "enumerate" = none) (ha : PA X [e] ta) (hs : starEach [e] X.env = [(false, eval e X.env)] := by rfl) :
    PI X (.Tuple elts kk tpos) (.Call (.Name "enumerate" p) [e] [] pos) (iEnumT X.K ta) := by
  refine ⟨fun pins s σ H R I h => ?_⟩
  refine Call_ (ld_blt I hg hm boot_enumerate (PyProof.Rows.callWith_type1 (thn (ha.run pos pins s σ H _ I h) fun us s1 ⟨vs, H1, I1, r1, q1⟩ => ?_) hs rfl))
  obtain ⟨a, xs, ex, hq, q⟩ := q1
  subst ex
  cases r1 with
  | cons r rr =>
    cases rr
    cases r
    obtain ⟨its, rv, p', hz⟩ := I1.tuple hq
    refine enum_begins1 (begins_tup a its.toArray) (show s1.heap.IsTuple a its.toArray from p') fun h' he hit hsz hk => wpAny_pyIter_enum he ?_
    have I2 : Inv X pins σ H1 { s1 with heap := h' } := I1.kept (t' := s1.toks) hk
    refine ⟨s1.heap.objs.size + 1, [s1.heap.objs.size + 1, s1.heap.objs.size], _, _, H1, rfl, I2, turn_enumT a (s1.heap.objs.size + 1) s1.heap.objs.size, ⟨⟨.none, he⟩, ⟨_, hit, rfl, rfl⟩, Nat.succ_ne_self _⟩, fun b hb => ?_, q⟩
    have e' : b = s1.heap.objs.size + 1 ∨ b = s1.heap.objs.size := by simpa using hb
    have hle : s1.heap.objs.size ≤ b := by
      rcases e' with z | z
      · rw [z]; exact Nat.le_add_right _ _
      · rw [z]; exact Nat.le_refl _
    exact I1.fpOk hle (I1.hok.fresh hle)

/-! ### sources by pure semantics -/
/-- what a list or a tuple holds -/
def itemsD : D → Option (List D)
  | .lst ds => some ds
  | .tup ds => some ds
  | _ => none
def xSeq (f : XS) : XLS := fun env io => (f env io).bind fun a => match itemsD a.1 with
  | some ds => if szL ds.length then some (ds, a.2) else none
  | none => none
theorem src_list {J : It} {S : List Addr} {H : Hp} {a : Addr} {ds : List D} {xs : List V} (hz : ds.length ≤ sizeLine) (h : cut S H a = some (.lst xs)) (r : DnL K (cut S H) xs ds) (hJ : J = Itl K a) : Src K J S H ds := by
  subst hJ
  refine ⟨hz, fun S2 H2 cs hf i => ⟨fun d hd => ?_, fun hi => ?_⟩⟩
  · obtain ⟨x, hx, dx⟩ := r.get hd
    have h2 := (cut_some (cs _ _ h)).2
    refine ⟨⟨xs, x, .inl (.inl h2), hx⟩, fun y H3 hy => ?_⟩
    obtain ⟨rfl, hy⟩ := hy
    have e := hy xs (.inl (.inl h2))
    rw [hx] at e
    cases e
    exact ⟨Same.refl _, dx.mono cs⟩
  · have h2 := (cut_some (cs _ _ h)).2
    exact ⟨xs, .inl (.inl h2), by rw [r.length, hi]; exact Nat.le_refl _⟩
theorem seqT_cut {S : List Addr} {H : Hp} {a : Addr} {xs : List V} (h : cut S H a = some (.tup xs)) {S2 : List Addr} {H2 : Hp} (cs : Same (cut S H) (cut S2 H2)) : SqT K H2 a xs := .inl (.inl (cut_some (cs _ _ h)).2)
theorem src_tup {J : It} {S : List Addr} {H : Hp} {a : Addr} {ds : List D} {xs : List V} (hz : ds.length ≤ sizeLine) (h : cut S H a = some (.tup xs)) (r : DnL K (cut S H) xs ds) (hJ : J = Itt K a) : Src K J S H ds := by
  subst hJ
  refine ⟨hz, fun S2 H2 cs hf i => ⟨fun d hd => ?_, fun hi => ?_⟩⟩
  · obtain ⟨x, hx, dx⟩ := r.get hd
    have h2 := seqT_cut (K := K) h cs
    refine ⟨⟨xs, x, h2, hx⟩, fun y H3 hy => ?_⟩
    obtain ⟨rfl, hy⟩ := hy
    have e := hy xs h2
    rw [hx] at e
    cases e
    exact ⟨Same.refl _, dx.mono cs⟩
  · exact ⟨xs, seqT_cut (K := K) h cs, by rw [r.length, hi]; exact Nat.le_refl _⟩
/-- over a list or a tuple -/
theorem i_seq {tg e : Expr} {f : XS} (he : SimX X s e f) : SimI X s tg e (xSeq f) :=
  PI_mono (PI_or (pi_list (tg := tg) he) (pi_tup he)) fun σ H R h => by
    obtain ⟨T, H0, w, env, iod, ds, iod', R0, e, q⟩ := h
    unfold xSeq at e
    cases e1 : f env iod with
    | none => rw [e1] at e; cases e
    | some a =>
      rw [e1, Option.bind_some] at e
      obtain ⟨a1, a2⟩ := a
      cases a1 with
      | lst es =>
        have e : (if szL es.length then some (es, a2) else none) = some (ds, iod') := e
        obtain ⟨hz, e⟩ := if_some e
        cases e
        refine .inl ⟨T, H0, w, env, iod, _, _, R0, e1, fun v H1 P d => ?_⟩
        cases d with
        | lst h r => exact ⟨_, rfl, ⟨_, .inl (.inl (cut_some h).2)⟩, q _ H1 P (src_list (szL_ok hz) h r rfl)⟩
      | tup es =>
        have e : (if szL es.length then some (es, a2) else none) = some (ds, iod') := e
        obtain ⟨hz, e⟩ := if_some e
        cases e
        refine .inr ⟨T, H0, w, env, iod, _, _, R0, e1, fun v H1 P d => ?_⟩
        cases d with
        | tup h r => exact ⟨_, rfl, ⟨_, seqTc h⟩, q _ H1 P (src_tup (szL_ok hz) h r rfl)⟩
      | _ => cases e
/-- range(n), range(a, b): at most 2^24 turns -/
def rangeD (lo : Int) (n : Nat) : List D := (List.range n).map fun i => .int (lo + (i : Nat))
def small62 (i : Int) : Bool := decide (-(2 ^ 62) ≤ i) && decide (i < 2 ^ 62)
theorem small62_ok {i : Int} (h : small62 i = true) : -(2 ^ 62) ≤ i ∧ i < 2 ^ 62 := by
  unfold small62 at h
  rw [Bool.and_eq_true] at h
  exact ⟨of_decide_eq_true h.1, of_decide_eq_true h.2⟩
def range1 : List D → Option (List D)
  | [.int n] => if small62 n && szL n.toNat then some (rangeD 0 n.toNat) else none
  | _ => none
def range2 : List D → Option (List D)
  | [.int m, .int n] => if small62 m && small62 n && szL (n - m).toNat then some (rangeD m (n - m).toNat) else none
  | _ => none
theorem range1_inv {ds es : List D} (h : range1 ds = some es) : ∃ n, ds = [.int n] ∧ small62 n = true ∧ szL n.toNat = true ∧ es = rangeD 0 n.toNat := by
  unfold range1 at h
  split at h
  · obtain ⟨h1, h2⟩ := if_some h
    rw [Bool.and_eq_true] at h1
    exact ⟨_, rfl, h1.1, h1.2, h2.symm⟩
  · cases h
theorem range2_inv {ds es : List D} (h : range2 ds = some es) : ∃ m n, ds = [.int m, .int n] ∧ small62 m = true ∧ small62 n = true ∧ szL (n - m).toNat = true ∧ es = rangeD m (n - m).toNat := by
  unfold range2 at h
  split at h
  · obtain ⟨h1, h2⟩ := if_some h
    rw [Bool.and_eq_true, Bool.and_eq_true] at h1
    exact ⟨_, _, rfl, h1.1.1, h1.1.2, h1.2, h2.symm⟩
  · cases h
/-- a source by its arguments -/
def xSrc (op : List D → Option (List D)) (f : XLS) : XLS := fun env io => (f env io).bind fun a => (op a.1).map fun r => (r, a.2)
theorem xSrc_inv {op : List D → Option (List D)} {f : XLS} {env : Env} {io io' : D} {c : List D} (h : xSrc op f env io = some (c, io')) : ∃ ds, f env io = some (ds, io') ∧ op ds = some c := by
  unfold xSrc at h
  cases h1 : f env io with
  | none => rw [h1] at h; cases h
  | some a =>
    rw [h1, Option.bind_some] at h
    cases h3 : op a.1 with
    | none => rw [h3] at h; cases h
    | some c' =>
      rw [h3, Option.map_some] at h
      cases h
      exact ⟨a.1, rfl, h3⟩
theorem src_range {lo : Int} {n : Nat} {S : List Addr} {H : Hp} (hz : n ≤ sizeLine) : Src K (Itr lo n) S H (rangeD lo n) := by
  have hl : (rangeD lo n).length = n := by unfold rangeD; rw [List.length_map, List.length_range]
  refine ⟨by rw [hl]; exact hz, fun S2 H2 cs hf i => ⟨fun d hd => ?_, fun hi => by rw [hl] at hi; rw [hi]; exact Nat.le_refl n⟩⟩
  unfold rangeD at hd
  rw [List.getElem?_map] at hd
  by_cases hi : i < n
  · rw [List.getElem?_range hi] at hd
    cases hd
    refine ⟨hi, fun x H3 hy => ?_⟩
    obtain ⟨rfl, rfl⟩ := hy
    exact ⟨Same.refl _, .int _⟩
  · rw [List.getElem?_eq_none_iff.mpr (by rw [List.length_range]; omega)] at hd
    cases hd
abbrev GlN (sc : Scope) (x : Str) : Prop := sc.names.lookup x = some .globalImplicit
theorem dnl1 {H : Hp} {vs : List V} {n : Int} (h : DnL K H vs [.int n]) : vs = [.int n] := by
  cases h with
  | cons h r => cases h; cases r; rfl
theorem dnl2 {H : Hp} {vs : List V} {m n : Int} (h : DnL K H vs [.int m, .int n]) : vs = [.int m, .int n] := by
  cases h with
  | cons h r =>
    cases h
    rw [dnl1 r]
theorem i_range1 {tg a : Expr} {f : XLS} {p pos : Pos} (I : In P w0 K mg base k X N sc φ) (hg : GlN sc "range") (hm : mg "range" = none) (ha : SimL X s [a] f) (hs : starEach [a] X.env = [(false, eval a X.env)] := by rfl) : SimI X s tg (.Call (.Name "range" p) [a] [] pos) (xSrc range1 f) :=
  PI_mono (pi_range1 (I.gl hg) (by rw [I.mg]; exact hm) ha hs) fun σ H R h => by
    obtain ⟨T, H0, w, env, iod, ds, iod', R0, e, q⟩ := h
    obtain ⟨as, e1, e2⟩ := xSrc_inv e
    obtain ⟨n, rfl, h1, h2, rfl⟩ := range1_inv e2
    refine ⟨T, H0, w, env, iod, _, iod', R0, e1, fun vs H1 P d => ?_⟩
    rw [dnl1 d]
    obtain ⟨h3, h4⟩ := small62_ok h1
    exact ⟨n, rfl, h3, h4, q _ H1 P (src_range (szL_ok h2))⟩
theorem i_range2 {tg a b : Expr} {f : XLS} {p pos : Pos} (I : In P w0 K mg base k X N sc φ) (hg : GlN sc "range") (hm : mg "range" = none) (ha : SimL X s [a, b] f) (hs : starEach [a, b] X.env = [(false, eval a X.env), (false, eval b X.env)] := by rfl) (hs2 : starEach [b] X.env = [(false, eval b X.env)] := by rfl) : SimI X s tg (.Call (.Name "range" p) [a, b] [] pos) (xSrc range2 f) :=
  PI_mono (pi_range2 (I.gl hg) (by rw [I.mg]; exact hm) ha hs hs2) fun σ H R h => by
    obtain ⟨T, H0, w, env, iod, ds, iod', R0, e, q⟩ := h
    obtain ⟨as, e1, e2⟩ := xSrc_inv e
    obtain ⟨m, n, rfl, h1, h1', h2, rfl⟩ := range2_inv e2
    refine ⟨T, H0, w, env, iod, _, iod', R0, e1, fun vs H1 P d => ?_⟩
    rw [dnl2 d]
    obtain ⟨h3, h4⟩ := small62_ok h1
    obtain ⟨h5, h6⟩ := small62_ok h1'
    exact ⟨m, n, rfl, ⟨h3, h4, h5, h6⟩, q _ H1 P (src_range (szL_ok h2))⟩

/-! ### enumerate, zip -/
def enumD : Int → List D → List D
  | _, [] => []
  | i, d :: ds => .tup [.int i, d] :: enumD (i + 1) ds
theorem enumD_get : ∀ {ds : List D} {i : Int} {j : Nat} {d : D}, (enumD i ds)[j]? = some d → ∃ d', ds[j]? = some d' ∧ d = .tup [.int (i + j), d']
  | [], _, _, _, h => by simp [enumD] at h
  | x :: ds, i, 0, d, h => by
    simp [enumD] at h
    exact ⟨x, rfl, by rw [← h]; simp⟩
  | x :: ds, i, j + 1, d, h => by
    have h : (enumD (i + 1) ds)[j]? = some d := h
    obtain ⟨d', h1, h2⟩ := enumD_get h
    refine ⟨d', h1, ?_⟩
    rw [h2]
    have e : i + 1 + (j : Int) = i + ((j + 1 : Nat) : Int) := by omega
    rw [e]
theorem enumD_len : ∀ (ds : List D) (i : Int), (enumD i ds).length = ds.length
  | [], _ => rfl
  | _ :: ds, i => by simp [enumD, enumD_len ds (i + 1)]
def enumS : List D → Option (List D)
  | [d] => (itemsD d).bind fun ds => if szL ds.length then some (enumD 0 ds) else none
  | _ => none
def zipD : List D → List D → List D
  | x :: xs, y :: ys => .tup [x, y] :: zipD xs ys
  | _, _ => []
theorem zipD_get : ∀ {xs ys : List D} {j : Nat} {d : D}, (zipD xs ys)[j]? = some d → ∃ x y, xs[j]? = some x ∧ ys[j]? = some y ∧ d = .tup [x, y]
  | [], _, _, _, h => by simp [zipD] at h
  | _ :: _, [], _, _, h => by simp [zipD] at h
  | x :: xs, y :: ys, 0, d, h => by
    simp [zipD] at h
    exact ⟨x, y, rfl, rfl, h.symm⟩
  | x :: xs, y :: ys, j + 1, d, h => by
    have h : (zipD xs ys)[j]? = some d := h
    obtain ⟨x', y', h1, h2, h3⟩ := zipD_get h
    exact ⟨x', y', h1, h2, h3⟩
theorem zipD_len : ∀ (xs ys : List D), (zipD xs ys).length = min xs.length ys.length
  | [], _ => by simp [zipD]
  | _ :: _, [] => by simp [zipD]
  | x :: xs, y :: ys => by simp [zipD, zipD_len xs ys, Nat.add_min_add_right]
def zipS : List D → Option (List D)
  | [.lst xs, .lst ys] => if szL xs.length then some (zipD xs ys) else none
  | [.tup xs, .tup ys] => if szL xs.length then some (zipD xs ys) else none
  | _ => none
/-- a new pair at each turn -/
theorem pair_dn {S : List Addr} {H : Hp} {p : Addr} {x y : V} {a b : D} (hf : Fr S H) (hp : H p = none) (hx : Dn K (cut S H) x a) (hy : Dn K (cut S H) y b) : Same H (upd H p (.tup [x, y])) ∧ Dn K (cut S (upd H p (.tup [x, y]))) (.ref p) (.tup [a, b]) := by
  have cs := cut_new (S := S) (o := .tup [x, y]) hp
  refine ⟨same_new hp, .tup ?_ (.cons (hx.mono cs) (.cons (hy.mono cs) .nil))⟩
  exact (cut_out (hf.out hp)).trans upd_same
theorem src_enumL {S : List Addr} {H : Hp} {a : Addr} {ds : List D} {xs : List V} (hz : ds.length ≤ sizeLine) (h : cut S H a = some (.lst xs)) (r : DnL K (cut S H) xs ds) : Src K (Ite K a) S H (enumD 0 ds) := by
  refine ⟨by rw [enumD_len]; exact hz, fun S2 H2 cs hf i => ⟨fun d hd => ?_, fun hi => ?_⟩⟩
  · obtain ⟨d', h1, h2⟩ := enumD_get hd
    obtain ⟨x, hx, dx⟩ := r.get h1
    have h3 := (cut_some (cs _ _ h)).2
    refine ⟨⟨xs, x, .inl (.inl h3), hx⟩, fun y H3 hy => ?_⟩
    obtain ⟨p, x', rfl, hp, rfl, hq⟩ := hy
    have e := hq xs (.inl (.inl h3))
    rw [hx] at e
    cases e
    rw [h2, Int.zero_add]
    exact pair_dn hf hp (.int _) (dx.mono cs)
  · rw [enumD_len] at hi
    exact ⟨xs, .inl (.inl (cut_some (cs _ _ h)).2), by rw [r.length, hi]; exact Nat.le_refl _⟩
theorem src_enumT {S : List Addr} {H : Hp} {a : Addr} {ds : List D} {xs : List V} (hz : ds.length ≤ sizeLine) (h : cut S H a = some (.tup xs)) (r : DnL K (cut S H) xs ds) : Src K (IteT K a) S H (enumD 0 ds) := by
  refine ⟨by rw [enumD_len]; exact hz, fun S2 H2 cs hf i => ⟨fun d hd => ?_, fun hi => ?_⟩⟩
  · obtain ⟨d', h1, h2⟩ := enumD_get hd
    obtain ⟨x, hx, dx⟩ := r.get h1
    have h3 := seqT_cut (K := K) h cs
    refine ⟨⟨xs, x, h3, hx⟩, fun y H3 hy => ?_⟩
    obtain ⟨p, x', rfl, hp, rfl, hq⟩ := hy
    have e := hq xs h3
    rw [hx] at e
    cases e
    rw [h2, Int.zero_add]
    exact pair_dn hf hp (.int _) (dx.mono cs)
  · rw [enumD_len] at hi
    exact ⟨xs, seqT_cut (K := K) h cs, by rw [r.length, hi]⟩
theorem i_enum {elts : List Expr} {kk : Nat} {tpos : Pos} {a : Expr} {f : XLS} {p pos : Pos} (I : In P w0 K mg base k X N sc φ) (hg : GlN sc "enumerate") (hm : mg "enumerate" = none) (ha : SimL X s [a] f) (hs : starEach [a] X.env = [(false, eval a X.env)] := by rfl) : SimI X s (.Tuple elts kk tpos) (.Call (.Name "enumerate" p) [a] [] pos) (xSrc enumS f) :=
  PI_mono (PI_or (pi_enum (I.gl hg) (by rw [I.mg]; exact hm) ha hs) (pi_enumT (I.gl hg) (by rw [I.mg]; exact hm) ha hs)) fun σ H R h => by
    obtain ⟨T, H0, w, env, iod, ds, iod', R0, e, q⟩ := h
    obtain ⟨as, e1, e2⟩ := xSrc_inv e
    unfold enumS at e2
    split at e2
    · rename_i d
      cases d with
      | lst es =>
        have e2 : (if szL es.length then some (enumD 0 es) else none) = some ds := e2
        obtain ⟨hz, e2⟩ := if_some e2
        cases e2
        refine .inl ⟨T, H0, w, env, iod, _, iod', R0, e1, fun vs H1 P d => ?_⟩
        cases d with
        | cons d r =>
          cases r
          cases d with
          | lst h r => exact ⟨_, _, rfl, .inl (.inl (cut_some h).2), q _ H1 P (src_enumL (szL_ok hz) h r)⟩
      | tup es =>
        have e2 : (if szL es.length then some (enumD 0 es) else none) = some ds := e2
        obtain ⟨hz, e2⟩ := if_some e2
        cases e2
        refine .inr ⟨T, H0, w, env, iod, _, iod', R0, e1, fun vs H1 P d => ?_⟩
        cases d with
        | cons d r =>
          cases r
          cases d with
          | tup h r => exact ⟨_, _, rfl, seqTc h, q _ H1 P (src_enumT (szL_ok hz) h r)⟩
      | _ => cases e2
    · cases e2
theorem min_sz {a b : Nat} (h : a ≤ sizeLine) : min a b ≤ sizeLine := Nat.le_trans (Nat.min_le_left _ _) h
theorem src_zipL {S : List Addr} {H : Hp} {a b : Addr} {ds es : List D} {xs ys : List V} (hz : ds.length ≤ sizeLine) (h : cut S H a = some (.lst xs)) (r : DnL K (cut S H) xs ds) (h' : cut S H b = some (.lst ys)) (r' : DnL K (cut S H) ys es) : Src K (Itz K a b) S H (zipD ds es) := by
  refine ⟨by rw [zipD_len]; exact min_sz hz, fun S2 H2 cs hf i => ⟨fun d hd => ?_, fun hi => ?_⟩⟩
  · obtain ⟨d1, d2, h1, h2, rfl⟩ := zipD_get hd
    obtain ⟨x, hx, dx⟩ := r.get h1
    obtain ⟨y, hy, dy⟩ := r'.get h2
    have h3 := (cut_some (cs _ _ h)).2
    have h4 := (cut_some (cs _ _ h')).2
    refine ⟨⟨xs, ys, x, y, .inl (.inl h3), .inl (.inl h4), hx, hy⟩, fun v H3 hv => ?_⟩
    obtain ⟨p, x', y', rfl, hp, rfl, q1, q2⟩ := hv
    have e := q1 xs (.inl (.inl h3))
    rw [hx] at e
    cases e
    have e := q2 ys (.inl (.inl h4))
    rw [hy] at e
    cases e
    exact pair_dn hf hp (dx.mono cs) (dy.mono cs)
  · rw [zipD_len] at hi
    refine ⟨xs, ys, .inl (.inl (cut_some (cs _ _ h)).2), .inl (.inl (cut_some (cs _ _ h')).2), ?_⟩
    rw [r.length, r'.length]
    omega
theorem src_zipT {S : List Addr} {H : Hp} {a b : Addr} {ds es : List D} {xs ys : List V} (hz : ds.length ≤ sizeLine) (h : cut S H a = some (.tup xs)) (r : DnL K (cut S H) xs ds) (h' : cut S H b = some (.tup ys)) (r' : DnL K (cut S H) ys es) : Src K (RZ.ItzT K a b) S H (zipD ds es) := by
  refine ⟨by rw [zipD_len]; exact min_sz hz, fun S2 H2 cs hf i => ⟨fun d hd => ?_, fun hi => ?_⟩⟩
  · obtain ⟨d1, d2, h1, h2, rfl⟩ := zipD_get hd
    obtain ⟨x, hx, dx⟩ := r.get h1
    obtain ⟨y, hy, dy⟩ := r'.get h2
    have h3 := seqT_cut (K := K) h cs
    have h4 := seqT_cut (K := K) h' cs
    refine ⟨⟨xs, ys, x, y, h3, h4, hx, hy⟩, fun v H3 hv => ?_⟩
    obtain ⟨p, x', y', rfl, hp, rfl, q1, q2⟩ := hv
    have e := q1 xs h3
    rw [hx] at e
    cases e
    have e := q2 ys h4
    rw [hy] at e
    cases e
    exact pair_dn hf hp (dx.mono cs) (dy.mono cs)
  · rw [zipD_len] at hi
    refine ⟨xs, ys, seqT_cut (K := K) h cs, seqT_cut (K := K) h' cs, ?_⟩
    rw [r.length, r'.length]
    omega
theorem i_zip {elts : List Expr} {kk : Nat} {tpos : Pos} {a b : Expr} {f : XLS} {p pos : Pos} (I : In P w0 K mg base k X N sc φ) (hg : GlN sc "zip") (hm : mg "zip" = none) (ha : SimL X s [a, b] f)
    (hs : starEach [a, b] X.env = (false, eval a X.env) :: starEach [b] X.env := by rfl) (hs2 : (backTo pos (starEach [b] X.env)).any (·.1) = false := by rfl) : SimI X s (.Tuple elts kk tpos) (.Call (.Name "zip" p) [a, b] [] pos) (xSrc zipS f) :=
  PI_mono (RZ.pi_zipA (I.gl hg) (by rw [I.mg]; exact hm) ha hs hs2) fun σ H R h => by
    obtain ⟨T, H0, w, env, iod, ds, iod', R0, e, q⟩ := h
    obtain ⟨as, e1, e2⟩ := xSrc_inv e
    refine ⟨T, H0, w, env, iod, _, iod', R0, e1, fun vs H1 P d => ?_⟩
    unfold zipS at e2
    split at e2
    · obtain ⟨hz, e2⟩ := if_some e2
      cases e2
      cases d with
      | cons d r =>
        cases r with
        | cons d' r =>
          cases r
          cases d with
          | lst h r =>
            cases d' with
            | lst h' r' => exact ⟨_, _, _, _, rfl, .inl ⟨.inl (.inl (cut_some h).2), .inl (.inl (cut_some h').2), q _ H1 P (src_zipL (szL_ok hz) h r h' r')⟩⟩
    · obtain ⟨hz, e2⟩ := if_some e2
      cases e2
      cases d with
      | cons d r =>
        cases r with
        | cons d' r =>
          cases r
          cases d with
          | tup h r =>
            cases d' with
            | tup h' r' => exact ⟨_, _, _, _, rfl, .inr ⟨seqTc h, seqTc h', q _ H1 P (src_zipT (szL_ok hz) h r h' r')⟩⟩
    · cases e2
end PL

/-! PL9: operators and built-ins, pure. -/
namespace PL
open PySem PySem.Spec PyProof.Rows L2
variable {X : Cx} {K : PySem.W.Frag}

/-! ### ints -/
def iiD (g : Int → Int → D) : D → D → Option D
  | .int a, .int b => some (g a b)
  | _, _ => none
def icD (C : Int → Int → Bool) (g : Int → Int → D) : D → D → Option D
  | .int a, .int b => if C a b then some (g a b) else none
  | _, _ => none
theorem dn_int {H : Hp} {x : V} {i : Int} (h : Dn K H x (.int i)) : x = .int i := by cases h; rfl
theorem dn_bl {H : Hp} {x : V} {i : Bool} (h : Dn K H x (.bl i)) : x = .bl i := by cases h; rfl
theorem dn_str {H : Hp} {x : V} {i : Str} (h : Dn K H x (.str i)) : x = .str i := by cases h; rfl
theorem dn_non {H : Hp} {x : V} (h : Dn K H x .non) : x = .non := by cases h; rfl
theorem k_ii {g : Int → Int → D} {gv : Int → Int → V} (hg : ∀ i j H, Dn K H (gv i j) (g i j)) : R2Ok K (iiD g) (rI0 gv) := by
  intro S H x y a b c Q hf ha hb e q
  unfold iiD at e
  split at e
  · cases e
    rw [dn_int ha, dn_int hb]
    exact ⟨_, _, rfl, rfl, q _ H (Same.refl _) (hg _ _ _)⟩
  · cases e
theorem k_ic {C : Int → Int → Bool} {Cp : Int → Int → Prop} {g : Int → Int → D} {gv : Int → Int → V} (hg : ∀ i j H, Dn K H (gv i j) (g i j)) (hC : ∀ i j, C i j = true → Cp i j) : R2Ok K (icD C g) (rI Cp gv) := by
  intro S H x y a b c Q hf ha hb e q
  unfold icD at e
  split at e
  · obtain ⟨h1, e⟩ := if_some e
    cases e
    rw [dn_int ha, dn_int hb]
    exact ⟨_, _, rfl, rfl, hC _ _ h1, q _ H (Same.refl _) (hg _ _ _)⟩
  · cases e
def addI : D → D → Option D := iiD fun a b => .int (a + b)
def subI : D → D → Option D := iiD fun a b => .int (a - b)
def mulI : D → D → Option D := icD (fun i j => (decide (-(2 ^ 64) < i) && decide (i < 2 ^ 64)) || (decide (-(2 ^ 64) < j) && decide (j < 2 ^ 64))) fun a b => .int (a * b)
def fdivI : D → D → Option D := icD (fun _ j => decide (0 < j) && decide (j < 1073741824)) fun a b => .int (a / b)
def modI : D → D → Option D := icD (fun _ j => decide (0 < j)) fun a b => .int (a % b)
def powI : D → D → Option D := icD (fun i j => decide (0 ≤ j) && (decide (j ≤ 1000000) && decide (i.natAbs < 2 ^ 64))) fun a b => .int (a ^ b.toNat)
theorem k_addI : R2Ok K addI (rI0 fun i j => .int (i + j)) := k_ii fun _ _ _ => .int _
theorem k_subI : R2Ok K subI (rI0 fun i j => .int (i - j)) := k_ii fun _ _ _ => .int _
theorem k_mulI : R2Ok K mulI (rI CMul fun i j => .int (i * j)) := k_ic (fun _ _ _ => .int _) fun i j h => by
  rw [Bool.or_eq_true, Bool.and_eq_true, Bool.and_eq_true] at h
  rcases h with h | h
  · exact .inl ⟨of_decide_eq_true h.1, of_decide_eq_true h.2⟩
  · exact .inr ⟨of_decide_eq_true h.1, of_decide_eq_true h.2⟩
theorem k_fdivI : R2Ok K fdivI (rI CDiv fun i j => .int (i / j)) := k_ic (fun _ _ _ => .int _) fun i j h => by
  rw [Bool.and_eq_true] at h
  exact ⟨of_decide_eq_true h.1, of_decide_eq_true h.2⟩
theorem k_modI : R2Ok K modI (rI (fun _ j => 0 < j) fun i j => .int (i % j)) := k_ic (fun _ _ _ => .int _) fun i j h => of_decide_eq_true h
theorem k_powI : R2Ok K powI (rI CPow fun i j => .int (i ^ j.toNat)) := k_ic (fun _ _ _ => .int _) fun i j h => by
  rw [Bool.and_eq_true, Bool.and_eq_true] at h
  exact ⟨of_decide_eq_true h.1, of_decide_eq_true h.2.1, of_decide_eq_true h.2.2⟩
def negI : D → Option D
  | .int a => some (.int (-a))
  | _ => none
theorem k_negI : R1Ok K negI (rU fun i => .int (-i)) := by
  intro S H x a c Q hf ha e q
  unfold negI at e
  split at e
  · cases e
    rw [dn_int ha]
    exact ⟨_, rfl, q _ H (Same.refl _) (.int _)⟩
  · cases e
def ltI : D → D → Option D := iiD fun a b => .bl (decide (a < b))
def leI : D → D → Option D := iiD fun a b => .bl (decide (a ≤ b))
def gtI : D → D → Option D := iiD fun a b => .bl (decide (b < a))
def geI : D → D → Option D := iiD fun a b => .bl (decide (b ≤ a))
theorem k_ltI : R2Ok K ltI (rI0 fun i j => .bl (decide (i < j))) := k_ii fun _ _ _ => .bl _
theorem k_leI : R2Ok K leI (rI0 fun i j => .bl (decide (i ≤ j))) := k_ii fun _ _ _ => .bl _
theorem k_gtI : R2Ok K gtI (rI0 fun i j => .bl (decide (j < i))) := k_ii fun _ _ _ => .bl _
theorem k_geI : R2Ok K geI (rI0 fun i j => .bl (decide (j ≤ i))) := k_ii fun _ _ _ => .bl _

/-! ### + of lists, of tuples, of texts; * of a list, of a tuple -/
def addL : D → D → Option D
  | .lst a, .lst b => if szL (a.length + b.length) then some (.lst (a ++ b)) else none
  | _, _ => none
def addT : D → D → Option D
  | .tup a, .tup b => if szL (a.length + b.length) then some (.tup (a ++ b)) else none
  | _, _ => none
def addS : D → D → Option D
  | .str a, .str b => if szL (a.length + b.length) then some (.str (a ++ b)) else none
  | _, _ => none
theorem lay_lst {S : List Addr} {H : Hp} {p : Addr} {xs : List V} {ds : List D} (hf : Fr S H) (hp : H p = none) (r : DnL K (cut S H) xs ds) : Same H (upd H p (.lst xs)) ∧ Dn K (cut S (upd H p (.lst xs))) (.ref p) (.lst ds) :=
  ⟨same_new hp, .lst ((cut_out (hf.out hp)).trans upd_same) (r.mono (cut_new hp))⟩
theorem lay_tup {S : List Addr} {H : Hp} {p : Addr} {xs : List V} {ds : List D} (hf : Fr S H) (hp : H p = none) (r : DnL K (cut S H) xs ds) : Same H (upd H p (.tup xs)) ∧ Dn K (cut S (upd H p (.tup xs))) (.ref p) (.tup ds) :=
  ⟨same_new hp, .tup ((cut_out (hf.out hp)).trans upd_same) (r.mono (cut_new hp))⟩
theorem k_addL : R2Ok K addL rCat := by
  intro S H x y a b c Q hf ha hb e q
  unfold addL at e
  split at e
  · obtain ⟨hz, e⟩ := if_some e
    cases e
    cases ha with
    | lst h r =>
      cases hb with
      | lst h' r' =>
        refine ⟨_, _, _, _, rfl, rfl, (cut_some h).2, (cut_some h').2, by rw [r.length, r'.length]; exact szL_ok hz, fun p hp => ?_⟩
        obtain ⟨g, d⟩ := lay_lst hf hp (r.append r')
        exact q _ _ g d
  · cases e
theorem k_addT : R2Ok K addT (rCatA K) := by
  intro S H x y a b c Q hf ha hb e q
  unfold addT at e
  split at e
  · obtain ⟨hz, e⟩ := if_some e
    cases e
    cases ha with
    | tup h r =>
      cases hb with
      | tup h' r' =>
        refine ⟨_, _, _, _, rfl, rfl, seqTc h, seqTc h', by rw [r.length, r'.length]; exact szL_ok hz, fun e0 => ?_, fun _ e0 => ?_, fun _ _ p hp => ?_⟩
        · subst e0
          cases r
          exact q _ H (Same.refl _) (.tup h' r')
        · subst e0
          cases r'
          rw [List.append_nil] at q
          exact q _ H (Same.refl _) (.tup h r)
        · obtain ⟨g, d⟩ := lay_tup hf hp (r.append r')
          exact q _ _ g d
  · cases e
theorem k_addS : R2Ok K addS (fun x y H Q => ∃ i j, x = .str i ∧ y = .str j ∧ i.length + j.length ≤ sizeLine ∧ Q (.str (i ++ j)) H) := by
  intro S H x y a b c Q hf ha hb e q
  unfold addS at e
  split at e
  · obtain ⟨hz, e⟩ := if_some e
    cases e
    rw [dn_str ha, dn_str hb]
    exact ⟨_, _, rfl, rfl, szL_ok hz, q _ H (Same.refl _) (.str _)⟩
  · cases e
/-- a list times an int -/
def repL : D → D → Option D
  | .lst a, .int k => if small62 k && szL (a.length * k.toNat) then some (.lst (List.replicate k.toNat a).flatten) else none
  | _, _ => none
theorem k_repL : R2Ok K repL rRep := by
  intro S H x y a b c Q hf ha hb e q
  unfold repL at e
  split at e
  · obtain ⟨hz, e⟩ := if_some e
    cases e
    rw [Bool.and_eq_true] at hz
    obtain ⟨z1, z2⟩ := small62_ok hz.1
    cases ha with
    | lst h r =>
      rw [dn_int hb]
      refine ⟨_, _, _, rfl, rfl, (cut_some h).2, by omega, by omega, by rw [r.length]; exact szL_ok hz.2, fun p hp => ?_⟩
      obtain ⟨g, d⟩ := lay_lst hf hp (r.rep _)
      exact q _ _ g d
  · cases e
def repT : D → D → Option D
  | .tup a, .int k => if decide (2 ≤ k) && (decide (k ≤ 1000) && (Nat.ble a.length 1000 && Nat.blt 0 a.length)) then some (.tup (List.replicate k.toNat a).flatten) else none
  | _, _ => none
theorem k_repT : R2Ok K repT (rRepT K) := by
  intro S H x y a b c Q hf ha hb e q
  unfold repT at e
  split at e
  · obtain ⟨hz, e⟩ := if_some e
    cases e
    rw [Bool.and_eq_true, Bool.and_eq_true, Bool.and_eq_true] at hz
    obtain ⟨h1, h2, h3, h4⟩ := hz
    have h4 : 0 < _ := Nat.le_of_ble_eq_true h4
    cases ha with
    | tup h r =>
      rw [dn_int hb]
      refine ⟨_, _, _, rfl, rfl, seqTc h, fun z => ?_, of_decide_eq_true h1, of_decide_eq_true h2, by rw [r.length]; exact Nat.le_of_ble_eq_true h3, fun p hp => ?_⟩
      · have hl := r.length
        rw [z] at hl
        rw [← hl] at h4
        exact absurd h4 (Nat.lt_irrefl 0)
      · obtain ⟨g, d⟩ := lay_tup hf hp (r.rep _)
        exact q _ _ g d
  · cases e

/-! ### ==, != -/
mutual
def toPy : D → Option PyData
  | .non => some .none
  | .bl b => some (.bool b)
  | .int i => some (.int i)
  | .str x => some (.str x)
  | .lst xs => (toPyL xs).map .list
  | .tup xs => (toPyL xs).map .tuple
  | .dic _ _ => none
  | .tuk _ => none
  | .ins _ _ => none
  | .scr _ => none
def toPyL : List D → Option (List PyData)
  | [] => some []
  | x :: xs => (toPy x).bind fun y => (toPyL xs).map fun ys => y :: ys
end
mutual
theorem toPy_dp {H : Hp} : ∀ (d : D) (v : V) (y : PyData), Dn K H v d → toPy d = some y → Dp K H v y
  | .non, _, _, h, e => by cases h; rw [toPy] at e; cases e; exact .non
  | .bl b, _, _, h, e => by cases h; rw [toPy] at e; cases e; exact .bl b
  | .int i, _, _, h, e => by cases h; rw [toPy] at e; cases e; exact .int i
  | .str x, _, _, h, e => by cases h; rw [toPy] at e; cases e; exact .str x
  | .lst ds, _, _, h, e => by
    rw [toPy] at e
    cases e1 : toPyL ds with
    | none => rw [e1] at e; cases e
    | some ys =>
      rw [e1] at e
      cases e
      cases h with
      | lst h r => exact .lst (.inl (.inl h)) (toPyL_dp ds _ ys r e1)
  | .tup ds, _, _, h, e => by
    rw [toPy] at e
    cases e1 : toPyL ds with
    | none => rw [e1] at e; cases e
    | some ys =>
      rw [e1] at e
      cases e
      cases h with
      | tup h r => exact .tup (.inl (.inl h)) (toPyL_dp ds _ ys r e1)
  | .dic _ _, _, _, _, e => by rw [toPy] at e; cases e
  | .tuk _, _, _, _, e => by rw [toPy] at e; cases e
  | .ins _ _, _, _, _, e => by rw [toPy] at e; cases e
  | .scr _, _, _, _, e => by rw [toPy] at e; cases e
theorem toPyL_dp {H : Hp} : ∀ (ds : List D) (vs : List V) (ys : List PyData), DnL K H vs ds → toPyL ds = some ys → DpAll K H vs ys
  | [], _, _, h, e => by cases h; rw [toPyL] at e; cases e; exact .nil
  | d :: ds, _, _, h, e => by
    rw [toPyL] at e
    cases e1 : toPy d with
    | none => rw [e1] at e; cases e
    | some y =>
      rw [e1, Option.bind_some] at e
      cases e2 : toPyL ds with
      | none => rw [e2] at e; cases e
      | some ys' =>
        rw [e2] at e
        cases e
        cases h with
        | cons h r => exact .cons (toPy_dp d _ y h e1) (toPyL_dp ds _ ys' r e2)
end
/-- == -/
def eqB (a b : D) : Option Bool := (toPy a).bind fun x => (toPy b).bind fun y => if SeqAt.shaped x && SeqAt.shaped y then some (PyData.eqv x y) else none
def eqD (a b : D) : Option D := (eqB a b).map .bl
def neD (a b : D) : Option D := (eqB a b).map fun k => .bl (!k)
theorem eqB_inv {H : Hp} {x y : V} {a b : D} {k : Bool} (h : eqB a b = some k) (hx : Dn K H x a) (hy : Dn K H y b) : ∃ d e, Dp K H x d ∧ Dp K H y e ∧ SeqAt.shaped d = true ∧ SeqAt.shaped e = true ∧ k = PyData.eqv d e := by
  unfold eqB at h
  cases e1 : toPy a with
  | none => rw [e1] at h; cases h
  | some d =>
    rw [e1, Option.bind_some] at h
    cases e2 : toPy b with
    | none => rw [e2] at h; cases h
    | some e =>
      rw [e2, Option.bind_some] at h
      obtain ⟨h1, h2⟩ := if_some h
      rw [Bool.and_eq_true] at h1
      exact ⟨d, e, toPy_dp a x d hx e1, toPy_dp b y e hy e2, h1.1, h1.2, h2.symm⟩
theorem Dp.mono {H H' : Hp} (s : Same H H') {v : V} {d : PyData} (h : Dp K H v d) : Dp K H' v d := by
  exact Dp.rec (motive_1 := fun v d _ => Dp K H' v d) (motive_2 := fun vs ds _ => DpAll K H' vs ds) .non .bl .int .str (fun h _ r => .lst (L2.Same.seq s h) r) (fun h _ r => .tup (Same.seqT s h) r) .nil (fun _ _ a b => .cons a b) h
theorem k_eqD : R2Ok K eqD (rEqD K) := by
  intro S H x y a b c Q hf ha hb e q
  unfold eqD at e
  cases e1 : eqB a b with
  | none => rw [e1] at e; cases e
  | some k =>
    rw [e1] at e
    cases e
    obtain ⟨d, e, h1, h2, h3, h4, rfl⟩ := eqB_inv e1 ha hb
    exact ⟨d, e, Dp.mono cut_same h1, Dp.mono cut_same h2, h3, h4, q _ H (Same.refl _) (.bl _)⟩
theorem k_neD : R2Ok K neD (rNeD K) := by
  intro S H x y a b c Q hf ha hb e q
  unfold neD at e
  cases e1 : eqB a b with
  | none => rw [e1] at e; cases e
  | some k =>
    rw [e1] at e
    cases e
    obtain ⟨d, e, h1, h2, h3, h4, rfl⟩ := eqB_inv e1 ha hb
    exact ⟨d, e, Dp.mono cut_same h1, Dp.mono cut_same h2, h3, h4, q _ H (Same.refl _) (.bl _)⟩
end PL

/-! PL10: subscripts, slices, membership, built-ins. -/
namespace PL
open PySem PySem.Spec PyProof.Rows L2
variable {X : Cx} {s s' s2 sl : Sh} {N : List Str} {sc : Scope} {φ : Str → Bool} {P : Program} {w0 : World} {K : PySem.W.Frag} {mg : Str → Option Value} {base : Heap} {k : Nat}

/-! ### x[i] -/
def ixD : D → D → Option D
  | .lst xs, .int i => atI xs i
  | .tup xs, .int i => atI xs i
  | .tuk xs, .int i => atI xs i
  | _, _ => none
theorem atI_dn {H : Hp} {vs : List V} {ds : List D} {i : Int} {d : D} (r : DnL K H vs ds) (h : atI ds i = some d) : ∃ v, atI vs i = some v ∧ Dn K H v d := by
  unfold atI at h ⊢
  rw [r.length]
  cases e : ixN ds.length i with
  | none => rw [e] at h; cases h
  | some j =>
    rw [e, Option.bind_some] at h
    obtain ⟨v, h1, h2⟩ := r.get h
    exact ⟨v, by rw [Option.bind_some]; exact h1, h2⟩
theorem k_ixD : R2Ok K ixD (rIx K) := by
  intro S H x y a b c Q hf ha hb e q
  unfold ixD at e
  split at e
  · cases ha with
    | lst h r =>
      obtain ⟨v, h1, h2⟩ := atI_dn r e
      rw [dn_int hb]
      exact .inl ⟨_, _, _, v, rfl, rfl, .inl (.inl (cut_some h).2), h1, q v H (Same.refl _) h2⟩
  · cases ha with
    | tup h r =>
      obtain ⟨v, h1, h2⟩ := atI_dn r e
      rw [dn_int hb]
      exact .inr (.inl ⟨_, _, _, v, rfl, rfl, seqTc h, h1, q v H (Same.refl _) h2⟩)
  · cases ha with
    | tuk h r =>
      obtain ⟨v, h1, h2⟩ := atI_dn r e
      rw [dn_int hb]
      exact .inr (.inl ⟨_, _, _, v, rfl, rfl, Same.seqT cut_same h, h1, q v H (Same.refl _) h2⟩)
  · cases e
theorem x_sub {a b : Expr} {f g : XS} {pos : Pos} (ha : SimX X s a f) (hb : SimX X s b g) (hs : PlainIx b := by exact fun _ _ => rfl) : SimX X s (.Subscript a b pos) (x2 ixD f g) := x_ix ix_seq k_ixD ha hb hs

/-! ### x[lo:hi] -/
def cutD (xs : List D) (lo hi : Option Int) : List D := (xs.drop (HT.sIx xs.length 0 lo)).take (HT.sIx xs.length xs.length hi - HT.sIx xs.length 0 lo)
theorem cut_dn {H : Hp} {vs : List V} {ds : List D} (lo hi : Option Int) (r : DnL K H vs ds) : DnL K H (cutV vs lo hi) (cutD ds lo hi) := by
  unfold cutV cutD
  rw [r.length]
  exact (r.drop _).take _
def slD (lo hi : Option Int) : D → Option D
  | .lst xs => some (.lst (cutD xs lo hi))
  | .tup xs => some (.tup (cutD xs lo hi))
  | .scr ns => some (.lst ((cutD (ns.map .int) lo hi)))
  | _ => none
/-- the parts of a slice -/
abbrev XO := Env → D → Option (Option Int × D)
def tO (K : PySem.W.Frag) (s : Sh) (f : XO) : TO := fun σ H Q => ∃ T H0 w env iod d iod', Rel K T H0 s w env iod σ H ∧ f env iod = some (d, iod') ∧ ∀ H', Post K T H0 s w env iod' σ H H' → Q d H'
abbrev SimO (X : Cx) (s : Sh) (e : Option Expr) (f : XO) : Prop := PO X e (tO X.K s f)
theorem PO_mono {e : Option Expr} {t t' : TO} (h : PO X e t) (m : ∀ σ H Q, t' σ H Q → t σ H Q) : PO X e t' := by
  exact ⟨fun pins st σ H Q I q => h.run pins st σ H Q I (m σ H Q q)⟩
def oNone : XO := fun _ io => some (none, io)
def oSome (f : XS) : XO := fun env io => (f env io).bind fun a => match a.1 with
  | .int i => some (some i, a.2)
  | _ => none
theorem o_none : SimO X s none oNone := PO_mono po_none fun σ H Q h => by
  obtain ⟨T, H0, w, env, iod, d, iod', R, e, q⟩ := h
  cases e
  exact q H R.post
theorem o_some {e : Expr} {f : XS} (h : SimX X s e f) : SimO X s (some e) (oSome f) := PO_mono (po_some h) fun σ H Q h => by
  obtain ⟨T, H0, w, env, iod, d, iod', R, e, q⟩ := h
  unfold oSome at e
  cases e1 : f env iod with
  | none => rw [e1] at e; cases e
  | some a =>
    rw [e1, Option.bind_some] at e
    obtain ⟨a1, a2⟩ := a
    cases a1 with
    | int i =>
      cases e
      refine ⟨T, H0, w, env, iod, _, _, R, e1, fun v H1 P d => ?_⟩
      rw [dn_int d]
      exact ⟨i, rfl, q H1 P⟩
    | _ => cases e
def xSl (f : XS) (lo hi : XO) : XS := fun env io => (f env io).bind fun a => (lo env a.2).bind fun l => (hi env l.2).bind fun h => (slD l.1 h.1 a.1).map fun r => (r, h.2)
theorem x_slice {e : Expr} {lo hi : Option Expr} {f : XS} {l h : XO} {p2 pos : Pos} (he : SimX X s e f) (hl : SimO X s lo l) (hu : SimO X s hi h) : SimX X s (.Subscript e (.Slice lo hi none p2) pos) (xSl f l h) :=
  PE_mono (pe_slice (sl_list.or sl_tupA) he hl hu) fun σ H Q hh => by
    obtain ⟨T, H0, w, env, iod, d, iod', R, e, q⟩ := hh
    unfold xSl at e
    cases e1 : f env iod with
    | none => rw [e1] at e; cases e
    | some a =>
      rw [e1, Option.bind_some] at e
      cases e2 : l env a.2 with
      | none => rw [e2] at e; cases e
      | some b =>
        rw [e2, Option.bind_some] at e
        cases e3 : h env b.2 with
        | none => rw [e3] at e; cases e
        | some c =>
          rw [e3, Option.bind_some] at e
          cases e4 : slD b.1 c.1 a.1 with
          | none => rw [e4] at e; cases e
          | some r =>
            rw [e4] at e
            cases e
            refine ⟨T, H0, w, env, iod, a.1, a.2, R, e1, fun x H1 P1 d1 => ⟨T, H0, w, env, a.2, b.1, b.2, P1.1, e2, fun H2 P2 => ⟨T, H0, w, env, b.2, c.1, c.2, P2.1, e3, fun H3 P3 => ?_⟩⟩⟩
            have P := (P1.trans P2).trans P3
            have d3 := (d1.mono P2.2).mono P3.2
            obtain ⟨a1, a2⟩ := a
            cases a1 with
            | lst xs =>
              cases e4
              cases d3 with
              | lst h r =>
                refine .inl ⟨_, _, rfl, .inl (.inl (cut_some h).2), fun p hp => ?_⟩
                obtain ⟨g, dn⟩ := lay_lst P3.1.frS hp (cut_dn b.1 c.1 r)
                exact q _ _ (P.trans ⟨P3.1.grow g, cutS g⟩) dn
            | tup xs =>
              cases e4
              cases d3 with
              | tup h r =>
                refine .inr ⟨_, _, rfl, seqTc h, fun hw => ?_, fun _ p hp => ?_⟩
                · have e5 : cutD xs b.1 c.1 = xs := by
                    unfold cutD
                    rw [r.length] at hw
                    rw [hw.1, hw.2, List.drop_zero, Nat.sub_zero, List.take_length]
                  rw [e5] at q
                  exact q _ _ P (.tup h r)
                · obtain ⟨g, dn⟩ := lay_tup P3.1.frS hp (cut_dn b.1 c.1 r)
                  exact q _ _ (P.trans ⟨P3.1.grow g, cutS g⟩) dn
            | scr ns =>
              cases e4
              cases d3 with
              | scr h =>
                refine .inl ⟨_, _, rfl, L2.Same.seq cut_same h, fun p hp => ?_⟩
                obtain ⟨g, dn⟩ := lay_lst P3.1.frS hp (cut_dn b.1 c.1 (DnL.ofInts (ns := ns)))
                exact q _ _ (P.trans ⟨P3.1.grow g, cutS g⟩) dn
            | _ => cases e4
/-- x[::-1] of a list -/
def revD : D → Option D
  | .lst xs => some (.lst xs.reverse)
  | _ => none
theorem x_rev {e : Expr} {f : XS} {kk : Nat} {p1 p2 p3 pos : Pos} (he : SimX X s e f) : SimX X s (.Subscript e (.Slice none none (some (.UnaryOp .USub (.Constant (.int 1) kk p1) p2)) p3) pos) (x1 revD f) :=
  PE_mono (pe_revL he) fun σ H Q hh => by
    obtain ⟨T, H0, w, env, iod, d, iod', R, e, q⟩ := hh
    obtain ⟨a, e1, e3⟩ := x1_inv e
    refine ⟨T, H0, w, env, iod, a, iod', R, e1, fun x H1 P1 d1 => ?_⟩
    unfold revD at e3
    split at e3
    · cases e3
      cases d1 with
      | lst h r =>
        refine ⟨_, _, rfl, .inl (.inl (cut_some h).2), fun p hp => ?_⟩
        obtain ⟨g, dn⟩ := lay_lst P1.1.frS hp r.reverse
        exact q _ _ (P1.trans ⟨P1.1.grow g, cutS g⟩) dn
    · cases e3

/-! ### x in xs: flat things -/
def flatD : D → Bool
  | .non | .bl _ | .int _ | .str _ => true
  | _ => false
def flV : D → V
  | .bl b => .bl b
  | .int i => .int i
  | .str x => .str x
  | _ => .non
theorem flat_dn {H : Hp} {x : V} {d : D} (h : Dn K H x d) (f : flatD d = true) : x = flV d ∧ flatV x = true := by
  cases h <;> first | (refine ⟨rfl, ?_⟩; first | rfl | decide) | cases f
theorem flat_dnl {H : Hp} : ∀ {xs : List V} {ds : List D}, DnL K H xs ds → ds.all flatD = true → xs = ds.map flV ∧ xs.all flatV = true
  | _, _, .nil, _ => ⟨rfl, rfl⟩
  | _, _, .cons h r, f => by
    rw [List.all_cons, Bool.and_eq_true] at f
    obtain ⟨h1, h2⟩ := flat_dn h f.1
    obtain ⟨h3, h4⟩ := flat_dnl r f.2
    refine ⟨by rw [List.map_cons, ← h1, ← h3], ?_⟩
    rw [List.all_cons, Bool.and_eq_true]
    exact ⟨h2, h4⟩
def itemsK : D → Option (List D)
  | .lst ds => some ds
  | .tup ds => some ds
  | .tuk ds => some ds
  | _ => none
def inB (x l : D) : Option Bool := (itemsK l).bind fun ds => if flatD x && ds.all flatD then some (inV (flV x) (ds.map flV)) else none
def inD (x l : D) : Option D := (inB x l).map .bl
def notInD (x l : D) : Option D := (inB x l).map fun k => .bl (!k)
theorem inB_inv {S : List Addr} {H : Hp} {x y : V} {a b : D} {k : Bool} (h : inB a b = some k) (hx : Dn K (cut S H) x a) (hy : Dn K (cut S H) y b) : ∃ p xs, y = .ref p ∧ (SqL K H p xs ∨ SqT K H p xs) ∧ flatV x = true ∧ xs.all flatV = true ∧ k = inV x xs := by
  unfold inB at h
  cases e1 : itemsK b with
  | none => rw [e1] at h; cases h
  | some ds =>
    rw [e1, Option.bind_some] at h
    obtain ⟨h1, h2⟩ := if_some h
    rw [Bool.and_eq_true] at h1
    obtain ⟨f1, f2⟩ := flat_dn hx h1.1
    cases b with
    | lst es =>
      cases e1
      cases hy with
      | lst h r =>
        obtain ⟨g1, g2⟩ := flat_dnl r h1.2
        exact ⟨_, _, rfl, .inl (.inl (.inl (cut_some h).2)), f2, g2, by rw [← h2, ← f1, ← g1]⟩
    | tup es =>
      cases e1
      cases hy with
      | tup h r =>
        obtain ⟨g1, g2⟩ := flat_dnl r h1.2
        exact ⟨_, _, rfl, .inr (seqTc h), f2, g2, by rw [← h2, ← f1, ← g1]⟩
    | tuk es =>
      cases e1
      cases hy with
      | tuk h r =>
        obtain ⟨g1, g2⟩ := flat_dnl r h1.2
        exact ⟨_, _, rfl, .inr (Same.seqT cut_same h), f2, g2, by rw [← h2, ← f1, ← g1]⟩
    | _ => cases e1
theorem k_inD : R2Ok K inD (rIn K false) := by
  intro S H x y a b c Q hf ha hb e q
  unfold inD at e
  cases e1 : inB a b with
  | none => rw [e1] at e; cases e
  | some k =>
    rw [e1] at e
    cases e
    obtain ⟨p, xs, h1, h2, h3, h4, rfl⟩ := inB_inv e1 ha hb
    exact ⟨p, xs, h1, h2, h3, h4, q _ H (Same.refl _) (.bl _)⟩
theorem k_notInD : R2Ok K notInD (rIn K true) := by
  intro S H x y a b c Q hf ha hb e q
  unfold notInD at e
  cases e1 : inB a b with
  | none => rw [e1] at e; cases e
  | some k =>
    rw [e1] at e
    cases e
    obtain ⟨p, xs, h1, h2, h3, h4, rfl⟩ := inB_inv e1 ha hb
    exact ⟨p, xs, h1, h2, h3, h4, q _ H (Same.refl _) (.bl _)⟩

/-! ### built-ins -/
def op1 (op : D → Option D) : List D → Option D
  | [d] => op d
  | _ => none
theorem dnl_one {H : Hp} {vs : List V} {d : D} (h : DnL K H vs [d]) : ∃ v, vs = [v] ∧ Dn K H v d := by
  cases h with
  | cons h r => cases r; exact ⟨_, rfl, h⟩
theorem op1_inv {op : D → Option D} {ds : List D} {c : D} (h : op1 op ds = some c) : ∃ d, ds = [d] ∧ op d = some c := by
  unfold op1 at h
  split at h
  · exact ⟨_, rfl, h⟩
  · cases h
def lenD : D → Option D
  | .lst xs => some (.int xs.length)
  | .tup xs => some (.int xs.length)
  | .str x => if szL x.length then some (.int x.length) else none
  | _ => none
theorem c_len : COk K (op1 lenD) (fun xs H Q => ∃ x n, xs = [x] ∧ LenV K x H n ∧ Q (.int n) H) := by
  intro S H xs ds c Q hf h e q
  obtain ⟨d, rfl, e2⟩ := op1_inv e
  replace e := e2
  clear e2
  obtain ⟨v, rfl, hd⟩ := dnl_one h
  clear h
  unfold lenD at e
  split at e
  · cases e
    cases hd with
    | lst h r => exact ⟨_, _, rfl, .inl ⟨_, .inl (.inl (cut_some h).2), rfl⟩, by rw [r.length]; exact q _ H (Same.refl _) (.int _)⟩
  · cases e
    cases hd with
    | tup h r => exact ⟨_, _, rfl, .inr ⟨_, seqTc h, rfl⟩, by rw [r.length]; exact q _ H (Same.refl _) (.int _)⟩
  · obtain ⟨hz, e⟩ := if_some e
    cases e
    rw [dn_str hd]
    exact ⟨_, _, rfl, ⟨szL_ok hz, rfl⟩, q _ H (Same.refl _) (.int _)⟩
  · cases e
def intD : D → Option D
  | .int i => some (.int i)
  | .bl b => some (.int (if b then 1 else 0))
  | _ => none
theorem c_int : COk K (op1 intD) (fun xs H Q => (∃ i, xs = [.int i] ∧ Q (.int i) H) ∨ ∃ k, xs = [.bl k] ∧ Q (.int (if k then 1 else 0)) H) := by
  intro S H xs ds c Q hf h e q
  obtain ⟨d, rfl, e2⟩ := op1_inv e
  replace e := e2
  clear e2
  obtain ⟨v, rfl, hd⟩ := dnl_one h
  clear h
  unfold intD at e
  split at e
  · cases e
    rw [dn_int hd]
    exact .inl ⟨_, rfl, q _ H (Same.refl _) (.int _)⟩
  · cases e
    rw [dn_bl hd]
    exact .inr ⟨_, rfl, q _ H (Same.refl _) (.int _)⟩
  · cases e
def absD : D → Option D
  | .int i => some (.int (if i < 0 then -i else i))
  | _ => none
theorem c_abs : COk K (op1 absD) (fun xs H Q => ∃ i, xs = [.int i] ∧ Q (.int (if i < 0 then -i else i)) H) := by
  intro S H xs ds c Q hf h e q
  obtain ⟨d, rfl, e2⟩ := op1_inv e
  replace e := e2
  clear e2
  obtain ⟨v, rfl, hd⟩ := dnl_one h
  clear h
  unfold absD at e
  split at e
  · cases e
    rw [dn_int hd]
    exact ⟨_, rfl, q _ H (Same.refl _) (.int _)⟩
  · cases e
def listD (d : D) : Option D := (itemsD d).map .lst
theorem c_list : CNew K (op1 listD) (fun xs H Q => ∃ p ys, xs = [.ref p] ∧ (SqL K H p ys ∨ SqT K H p ys) ∧ ∀ l, H l = none → Q (.ref l) (upd H l (.lst ys))) := by
  intro S H xs ds c Q hf h e q
  obtain ⟨d, rfl, e2⟩ := op1_inv e
  replace e := e2
  clear e2
  obtain ⟨v, rfl, hd⟩ := dnl_one h
  clear h
  have fin : ∀ {ys : List V} {es : List D}, DnL K (cut S H) ys es → (c = .lst es) → ∀ l, H l = none → Q (.ref l) (upd H l (.lst ys)) := fun {ys es} r ec l hl => by
    refine q l _ (same_new hl) hl ?_
    rw [ec]
    exact .lst upd_same (r.mono (cut_mono (fun b hb => by
      rcases List.mem_cons.mp hb with z | z
      · exact .inr (by rw [z]; exact hl)
      · exact .inl z) fun b o _ e => same_new hl b o e))
  unfold listD at e
  cases d with
  | lst es =>
    cases e
    cases hd with
    | lst h r => exact ⟨_, _, rfl, .inl (.inl (.inl (cut_some h).2)), fin r rfl⟩
  | tup es =>
    cases e
    cases hd with
    | tup h r => exact ⟨_, _, rfl, .inr (seqTc h), fin r rfl⟩
  | _ => cases e
def tupleD (d : D) : Option D := (itemsD d).map .tup
theorem c_tuple : COk K (op1 tupleD) (fun xs H Q => ∃ p ys, xs = [.ref p] ∧ ((SqL K H p ys ∧ ∀ l, H l = none → Q (.ref l) (upd H l (.tup ys))) ∨ (SqT K H p ys ∧ Q (.ref p) H))) := by
  intro S H xs ds c Q hf h e q
  obtain ⟨d, rfl, e2⟩ := op1_inv e
  replace e := e2
  clear e2
  obtain ⟨v, rfl, hd⟩ := dnl_one h
  clear h
  unfold tupleD at e
  cases d with
  | lst es =>
    cases e
    cases hd with
    | lst h r =>
      refine ⟨_, _, rfl, .inl ⟨.inl (.inl (cut_some h).2), fun l hl => ?_⟩⟩
      obtain ⟨g, dn⟩ := lay_tup hf hl r
      exact q _ _ g dn
  | tup es =>
    cases e
    cases hd with
    | tup h r => exact ⟨_, _, rfl, .inr ⟨seqTc h, q _ H (Same.refl _) (.tup h r)⟩⟩
  | _ => cases e
/-- the ints of a list -/
def intsD : List D → Option (List Int)
  | [] => some []
  | .int i :: ds => (intsD ds).map fun r => i :: r
  | _ => none
theorem intsD_dn {H : Hp} : ∀ {vs : List V} {ds : List D} {ns : List Int}, intsD ds = some ns → DnL K H vs ds → vs = ns.map V.int
  | _, [], _, e, h => by cases e; cases h; rfl
  | _, .int i :: ds, _, e, h => by
    unfold intsD at e
    cases e1 : intsD ds with
    | none => rw [e1] at e; cases e
    | some r =>
      rw [e1] at e
      cases e
      cases h with
      | cons h r' =>
        rw [dn_int h, intsD_dn e1 r', List.map_cons]
  | _, .non :: _, _, e, _ => by cases e
  | _, .bl _ :: _, _, e, _ => by cases e
  | _, .str _ :: _, _, e, _ => by cases e
  | _, .lst _ :: _, _, e, _ => by cases e
  | _, .tup _ :: _, _, e, _ => by cases e
  | _, .dic _ _ :: _, _, e, _ => by cases e
  | _, .tuk _ :: _, _, e, _ => by cases e
  | _, .ins _ _ :: _, _, e, _ => by cases e
  | _, .scr _ :: _, _, e, _ => by cases e
def blsD : List D → Option (List Bool)
  | [] => some []
  | .bl i :: ds => (blsD ds).map fun r => i :: r
  | _ => none
theorem blsD_dn {H : Hp} : ∀ {vs : List V} {ds : List D} {ns : List Bool}, blsD ds = some ns → DnL K H vs ds → vs = ns.map V.bl
  | _, [], _, e, h => by cases e; cases h; rfl
  | _, .bl i :: ds, _, e, h => by
    unfold blsD at e
    cases e1 : blsD ds with
    | none => rw [e1] at e; cases e
    | some r =>
      rw [e1] at e
      cases e
      cases h with
      | cons h r' =>
        rw [dn_bl h, blsD_dn e1 r', List.map_cons]
  | _, .non :: _, _, e, _ => by cases e
  | _, .int _ :: _, _, e, _ => by cases e
  | _, .str _ :: _, _, e, _ => by cases e
  | _, .lst _ :: _, _, e, _ => by cases e
  | _, .tup _ :: _, _, e, _ => by cases e
  | _, .dic _ _ :: _, _, e, _ => by cases e
  | _, .tuk _ :: _, _, e, _ => by cases e
  | _, .ins _ _ :: _, _, e, _ => by cases e
  | _, .scr _ :: _, _, e, _ => by cases e
def sumD : D → Option D
  | .lst xs => (intsD xs).map fun ns => .int ns.sum
  | _ => none
theorem c_sum : COk K (op1 sumD) (rSum K) := by
  intro S H xs ds c Q hf h e q
  obtain ⟨d, rfl, e2⟩ := op1_inv e
  replace e := e2
  clear e2
  obtain ⟨v, rfl, hd⟩ := dnl_one h
  clear h
  unfold sumD at e
  split at e
  · rename_i es
    cases e1 : intsD es with
    | none => rw [e1] at e; cases e
    | some ns =>
      rw [e1] at e
      cases e
      cases hd with
      | lst h r =>
        rw [intsD_dn e1 r] at h
        exact ⟨_, ns, rfl, .inl (.inl (cut_some h).2), q _ H (Same.refl _) (.int _)⟩
  · cases e
def allD : D → Option D
  | .lst xs => (blsD xs).map fun ns => .bl (ns.all id)
  | _ => none
theorem c_all : COk K (op1 allD) (rAll K) := by
  intro S H xs ds c Q hf h e q
  obtain ⟨d, rfl, e2⟩ := op1_inv e
  replace e := e2
  clear e2
  obtain ⟨v, rfl, hd⟩ := dnl_one h
  clear h
  unfold allD at e
  split at e
  · rename_i es
    cases e1 : blsD es with
    | none => rw [e1] at e; cases e
    | some ns =>
      rw [e1] at e
      cases e
      cases hd with
      | lst h r =>
        rw [blsD_dn e1 r] at h
        exact ⟨_, ns, rfl, .inl (.inl (cut_some h).2), q _ H (Same.refl _) (.bl _)⟩
  · cases e
def anyD : D → Option D
  | .lst xs => (blsD xs).map fun ns => .bl (ns.any id)
  | _ => none
theorem c_any : COk K (op1 anyD) (rAny K) := by
  intro S H xs ds c Q hf h e q
  obtain ⟨d, rfl, e2⟩ := op1_inv e
  replace e := e2
  clear e2
  obtain ⟨v, rfl, hd⟩ := dnl_one h
  clear h
  unfold anyD at e
  split at e
  · rename_i es
    cases e1 : blsD es with
    | none => rw [e1] at e; cases e
    | some ns =>
      rw [e1] at e
      cases e
      cases hd with
      | lst h r =>
        rw [blsD_dn e1 r] at h
        exact ⟨_, ns, rfl, .inl (.inl (cut_some h).2), q _ H (Same.refl _) (.bl _)⟩
  · cases e
def minL : List Int → Option Int
  | [] => none
  | [x] => some x
  | x :: xs => (minL xs).map fun m => if x ≤ m then x else m
theorem minL_ok : ∀ {ns : List Int} {m : Int}, minL ns = some m → m ∈ ns ∧ ∀ y, y ∈ ns → m ≤ y
  | [], _, h => by cases h
  | [x], m, h => by
    cases h
    exact ⟨List.mem_cons_self, fun y hy => by rw [List.mem_singleton.mp hy]; exact Int.le_refl _⟩
  | x :: y :: r, m, h => by
    have h : (minL (y :: r)).map (fun m => if x ≤ m then x else m) = some m := h
    cases e : minL (y :: r) with
    | none => rw [e] at h; cases h
    | some n =>
      rw [e] at h
      have h : (if x ≤ n then x else n) = m := Option.some.inj h
      obtain ⟨h1, h2⟩ := minL_ok e
      by_cases hx : x ≤ n
      · rw [if_pos hx] at h
        subst h
        refine ⟨List.mem_cons_self, fun z hz => ?_⟩
        rcases List.mem_cons.mp hz with e | hz
        · rw [e]; exact Int.le_refl _
        · exact Int.le_trans hx (h2 z hz)
      · rw [if_neg hx] at h
        subst h
        refine ⟨List.mem_cons_of_mem _ h1, fun z hz => ?_⟩
        rcases List.mem_cons.mp hz with e | hz
        · rw [e]; omega
        · exact h2 z hz
def minD : D → Option D
  | .lst xs => (intsD xs).bind fun ns => (minL ns).map .int
  | _ => none
theorem c_min : COk K (op1 minD) (rMin K) := by
  intro S H xs ds c Q hf h e q
  obtain ⟨d, rfl, e2⟩ := op1_inv e
  replace e := e2
  clear e2
  obtain ⟨v, rfl, hd⟩ := dnl_one h
  clear h
  unfold minD at e
  split at e
  · rename_i es
    cases e1 : intsD es with
    | none => rw [e1] at e; cases e
    | some ns =>
      rw [e1, Option.bind_some] at e
      cases e2 : minL ns with
      | none => rw [e2] at e; cases e
      | some m0 =>
        rw [e2] at e
        cases e
        obtain ⟨h1, h2⟩ := minL_ok e2
        cases hd with
        | lst h r =>
          rw [intsD_dn e1 r] at h
          refine ⟨_, ns, rfl, .inl (.inl (cut_some h).2), List.length_pos_of_mem h1, fun m hm hle => ?_⟩
          have em : m = m0 := Int.le_antisymm (hle _ h1) (h2 _ hm)
          rw [em]
          exact q _ H (Same.refl _) (.int _)
  · cases e
end PL

/-! PL11: sorted, isinstance. -/
namespace PL
open PySem PySem.Spec PyProof.Rows L2
variable {X : Cx} {s s' s2 sl : Sh} {N : List Str} {sc : Scope} {φ : Str → Bool} {P : Program} {w0 : World} {K : PySem.W.Frag} {mg : Str → Option Value} {base : Heap} {k : Nat}

/-! ### sorted -/
section
variable {α : Type} (le : α → α → Bool)
def insL (x : α) : List α → List α
  | [] => [x]
  | y :: ys => if le x y then x :: y :: ys else y :: insL x ys
def isort : List α → List α
  | [] => []
  | x :: xs => insL le x (isort xs)
variable {le}
theorem insL_perm (x : α) : ∀ l : List α, (insL le x l).Perm (x :: l)
  | [] => List.Perm.refl _
  | y :: ys => by
    unfold insL
    split
    · exact List.Perm.refl _
    · exact (List.Perm.cons y (insL_perm x ys)).trans (List.Perm.swap x y ys)
theorem isort_perm : ∀ l : List α, (isort le l).Perm l
  | [] => List.Perm.refl _
  | x :: xs => (insL_perm x _).trans (List.Perm.cons x (isort_perm xs))
theorem insL_pw (T : PySem.W.TotalLe le) (x : α) : ∀ l : List α, l.Pairwise (fun a b => le a b = true) → (insL le x l).Pairwise (fun a b => le a b = true)
  | [], _ => List.pairwise_singleton _ _
  | y :: ys, h => by
    obtain ⟨h1, h2⟩ := List.pairwise_cons.mp h
    unfold insL
    split
    · rename_i hle
      refine List.pairwise_cons.mpr ⟨fun z hz => ?_, h⟩
      rcases List.mem_cons.mp hz with e | hz
      · rw [e]; exact hle
      · exact T.trans _ _ _ hle (h1 z hz)
    · rename_i hle
      refine List.pairwise_cons.mpr ⟨fun z hz => ?_, insL_pw T x ys h2⟩
      rcases List.mem_cons.mp ((insL_perm x ys).mem_iff.mp hz) with e | hz
      · rw [e]
        rcases T.total x y with q | q
        · exact absurd q hle
        · exact q
      · exact h1 z hz
theorem isort_pw (T : PySem.W.TotalLe le) : ∀ l : List α, (isort le l).Pairwise (fun a b => le a b = true)
  | [] => List.Pairwise.nil
  | x :: xs => insL_pw T x _ (isort_pw T xs)
theorem insL_filter (T : PySem.W.TotalLe le) (c x : α) : ∀ l : List α, (insL le x l).filter (PySem.W.sameRank le c) = (x :: l).filter (PySem.W.sameRank le c)
  | [] => rfl
  | y :: ys => by
    unfold insL
    split
    · rfl
    · rename_i hle
      have ih := insL_filter T c x ys
      cases hx : PySem.W.sameRank le c x with
      | false =>
        rw [List.filter_cons_of_neg (by rw [hx]; decide)] at ih
        rw [List.filter_cons_of_neg (a := x) (by rw [hx]; decide)]
        rw [List.filter_cons, List.filter_cons, ih]
      | true =>
        have hy : PySem.W.sameRank le c y = false := by
          cases hy : PySem.W.sameRank le c y with
          | false => rfl
          | true =>
            unfold PySem.W.sameRank at hx hy
            rw [Bool.and_eq_true] at hx hy
            exact absurd (T.trans _ _ _ hx.2 hy.1) hle
        rw [List.filter_cons_of_neg (by rw [hy]; decide), ih, List.filter_cons_of_pos hx, List.filter_cons_of_pos hx, List.filter_cons_of_neg (by rw [hy]; decide)]
theorem isort_filter (T : PySem.W.TotalLe le) (c : α) : ∀ l : List α, (isort le l).filter (PySem.W.sameRank le c) = l.filter (PySem.W.sameRank le c)
  | [] => rfl
  | x :: xs => by
    unfold isort
    rw [insL_filter T, List.filter_cons, List.filter_cons, isort_filter T c xs]
theorem isort_eq (T : PySem.W.TotalLe le) (l : List α) : l.mergeSort le = isort le l :=
  PySem.W.sort_one T _ _ (PySem.W.sort_pairwise T l) (isort_pw T l) fun c => (PySem.W.sort_stable T l c).trans (isort_filter T c l).symm
end
def dle {α : Type} (p q : α × PyData) : Bool := !PySem.W.dataLt q.2 p.2
theorem dle_eq {α : Type} : (dle : α × PyData → α × PyData → Bool) = PySem.W.dataLe false Prod.snd := rfl
theorem dle_total {α : Type} : PySem.W.TotalLe (dle : α × PyData → α × PyData → Bool) := by
  rw [dle_eq]
  exact PySem.W.sortLe_total _ _ _
def nonETup : PyData → Bool
  | .tuple (_ :: _) => true
  | _ => false
def notTN : PyData → Bool
  | .none => false
  | .tuple _ => false
  | _ => true
def sortOk (ys : List PyData) : Bool := (ys.all fun a => ys.all fun b => PySem.W.alike a b) && ((ys.all nonETup || ys.all notTN) && (ys.all fun y => Nat.ble y.depth 60 && szL ys.length))
def sortL (ds : List D) : Option (List D) := (toPyL ds).bind fun ys => if sortOk ys then some ((isort dle (ds.zip ys)).map (·.1)) else none
theorem sortOk_inv {ys : List PyData} (h : sortOk ys = true) : PySem.W.AllAlike ys ∧ PySem.W.Sortable ys ∧ ∀ y ∈ ys, y.depth ≤ 60 := by
  unfold sortOk at h
  rw [Bool.and_eq_true, Bool.and_eq_true, Bool.or_eq_true] at h
  obtain ⟨h1, h2, h3⟩ := h
  refine ⟨fun d hd d' hd' => List.all_eq_true.mp (List.all_eq_true.mp h1 d hd) d' hd', ?_, fun y hy => ?_⟩
  · rcases h2 with h2 | h2
    · refine .inl fun d hd => ?_
      have h4 := List.all_eq_true.mp h2 d hd
      unfold nonETup at h4
      split at h4
      · exact ⟨_, _, rfl⟩
      · cases h4
    · refine .inr fun d hd => ?_
      have h4 := List.all_eq_true.mp h2 d hd
      unfold notTN at h4
      split at h4
      · cases h4
      · cases h4
      · rename_i h5 h6
        exact ⟨fun z => h5 z, fun xs z => h6 xs z⟩
  · have h4 := List.all_eq_true.mp h3 y hy
    rw [Bool.and_eq_true] at h4
    exact Nat.le_of_ble_eq_true h4.1
/-- sorted(xs) of a list of data -/
def rSrt (K : PySem.W.Frag) : List V → Hp → VK → Prop := fun vs H Q => ∃ (a : Addr) (xs : List V) (ys : List PyData), vs = [.ref a] ∧ SqL K H a xs ∧ DpAll K H xs ys ∧ sortOk ys = true ∧ ∀ p, H p = none → Q (.ref p) (upd H p (.lst ((isort dle (xs.zip ys)).map (·.1))))
theorem each_zip {R : Value → V × PyData → Prop} : ∀ {us : List Value} {xs : List V} {ys : List PyData}, Vals xs us → xs.length = ys.length → (∀ (i : Nat) u x y, us[i]? = some u → xs[i]? = some x → ys[i]? = some y → RelV x u → R u (x, y)) → PySem.W.EachIs R us (xs.zip ys)
  | _, _, [], .nil, _, _ => .nil
  | _, _, y :: ys, .nil, hl, _ => by simp at hl
  | _, _, [], .cons _ _, hl, _ => by simp at hl
  | _, _, y :: ys, .cons r t, hl, h => by
    rw [List.zip_cons_cons]
    refine .cons (h 0 _ _ _ rfl rfl rfl r) (each_zip t (by simpa using hl) fun i u x y h1 h2 h3 => h (i + 1) u x y (by simpa using h1) (by simpa using h2) (by simpa using h3))
theorem each_vals : ∀ {us : List Value} {bs : List (V × PyData)}, PySem.W.EachIs (fun u (b : V × PyData) => RelV b.1 u) us bs → Vals (bs.map (·.1)) us
  | _, _, .nil => .nil
  | _, _, .cons h t => .cons h (each_vals t)
theorem DpAll.length {H : Hp} : ∀ {vs : List V} {ys : List PyData}, DpAll K H vs ys → vs.length = ys.length
  | _, _, .nil => rfl
  | _, _, .cons _ r => by rw [List.length_cons, List.length_cons, DpAll.length r]
theorem DpAll.get {H : Hp} : ∀ {vs : List V} {ys : List PyData} {i : Nat} {v : V} {y : PyData}, DpAll K H vs ys → vs[i]? = some v → ys[i]? = some y → Dp K H v y
  | _, _, 0, _, _, .cons h _, e1, e2 => by simp at e1 e2; subst e1; subst e2; exact h
  | _, _, i + 1, _, _, .cons _ r, e1, e2 => DpAll.get (i := i) r (by simpa using e1) (by simpa using e2)
theorem cr_srt (hu : X.A.units + 64 < cLine) : CallR X (.builtin "sorted") (rSrt X.K) := by
  intro pins st σ H vs us Q I r h
  obtain ⟨a, xs, ys, rfl, hs, hd, hk, q⟩ := h
  obtain ⟨its, rv, hl, hz⟩ := I.list hs
  obtain ⟨u, rfl, ru⟩ := vals1 r
  obtain rfl : u = Value.ref a := ru
  obtain ⟨h1, h2, h3⟩ := sortOk_inv hk
  have hlen := DpAll.length hd
  have emap : (xs.zip ys).map Prod.snd = ys := by
    rw [List.map_snd_zip]
    omega
  have hb : (xs.zip ys).length ≤ sizeLine := by
    rw [List.length_zip]
    exact Nat.le_trans (Nat.min_le_left _ _) hz
  refine PySem.W.sorted_data (bs := xs.zip ys) (enc := Prod.snd) (R := fun u b => RelV b.1 u) hl.isList (each_zip rv hlen fun i u x y _ _ _ r => r)
    (each_zip rv hlen fun i u x y _ e2 e3 r => Dp.reads I y x u (DpAll.get hd e2 e3) r) (by rw [emap]; exact h1) (by rw [emap]; exact h2) hb
    (fun b hb => ?_) fun out hl2 ho => ?_
  · have hb2 : b.2 ∈ ys := by rw [← emap]; exact List.mem_map.mpr ⟨b, hb, rfl⟩
    have := h3 _ hb2
    omega
  · rw [← dle_eq, isort_eq dle_total] at ho
    have hv := each_vals ho
    obtain ⟨e, he⟩ := sortedAll_at st.heap its (List.toArray out)
    have hfree : H (st.heap.objs.size + 1) = none := I.hok.fresh (Nat.le_succ _)
    have hlz : ((isort dle (xs.zip ys)).map (·.1)).length ≤ sizeLine := by
      rw [List.length_map, (isort_perm _).length_eq]
      exact hb
    exact ⟨.ref (st.heap.objs.size + 1), upd H (st.heap.objs.size + 1) (.lst ((isort dle (xs.zip ys)).map (·.1))), I.laid (a := st.heap.objs.size + 1) (o := .lst ((isort dle (xs.zip ys)).map (·.1))) (t' := st.toks) (fun b u e => sortedAll_old e) (Nat.le_succ _) ⟨hlz, out, e, hv, he⟩, rfl, q _ hfree⟩
def sortedD : D → Option D
  | .lst ds => (sortL ds).map .lst
  | _ => none
theorem insL_zip {H : Hp} {v : V} {d : D} {y : PyData} (hx : Dn K H v d) : ∀ {vs : List (V × PyData)} {ds : List (D × PyData)}, vs.map (·.2) = ds.map (·.2) → DnL K H (vs.map (·.1)) (ds.map (·.1)) →
    (insL dle (v, y) vs).map (·.2) = (insL dle (d, y) ds).map (·.2) ∧ DnL K H ((insL dle (v, y) vs).map (·.1)) ((insL dle (d, y) ds).map (·.1))
  | [], [], _, _ => ⟨rfl, .cons hx .nil⟩
  | [], _ :: _, h, _ => by cases h
  | _ :: _, [], h, _ => by cases h
  | (v1, y1) :: vs, (d1, y2) :: ds, h, r => by
    rw [List.map_cons, List.map_cons] at h
    obtain ⟨h1, h2⟩ := List.cons.inj h
    have h1 : y1 = y2 := h1
    subst h1
    cases r with
    | cons r1 r2 =>
      obtain ⟨g1, g2⟩ := insL_zip (y := y) hx h2 r2
      unfold insL
      have e : dle (v, y) (v1, y1) = dle (d, y) (d1, y1) := rfl
      rw [e]
      cases dle (d, y) (d1, y1) with
      | true =>
        rw [if_pos rfl, if_pos rfl]
        exact ⟨by simp [h2], .cons hx (.cons r1 r2)⟩
      | false =>
        rw [if_neg Bool.false_ne_true, if_neg Bool.false_ne_true]
        exact ⟨by simp [g1], .cons r1 g2⟩
theorem isort_zip {H : Hp} : ∀ {vs : List V} {ds : List D} {ys : List PyData}, DnL K H vs ds → ds.length = ys.length →
    (isort dle (vs.zip ys)).map (·.2) = (isort dle (ds.zip ys)).map (·.2) ∧ DnL K H ((isort dle (vs.zip ys)).map (·.1)) ((isort dle (ds.zip ys)).map (·.1))
  | _, _, [], .nil, _ => ⟨rfl, .nil⟩
  | _, _, _ :: _, .nil, hl => by simp at hl
  | _, _, [], .cons _ _, hl => by simp at hl
  | _, _, y :: ys, .cons h r, hl => by
    obtain ⟨g1, g2⟩ := isort_zip (ys := ys) r (by simpa using hl)
    exact insL_zip (y := y) h g1 g2
theorem toPyL_len : ∀ {ds : List D} {ys : List PyData}, toPyL ds = some ys → ds.length = ys.length
  | [], _, e => by rw [toPyL] at e; cases e; rfl
  | d :: ds, _, e => by
    rw [toPyL] at e
    cases e1 : toPy d with
    | none => rw [e1] at e; cases e
    | some y =>
      rw [e1, Option.bind_some] at e
      cases e2 : toPyL ds with
      | none => rw [e2] at e; cases e
      | some ys' =>
        rw [e2] at e
        cases e
        rw [List.length_cons, List.length_cons, toPyL_len e2]
theorem DpAll.mono {H H' : Hp} (s : Same H H') {vs : List V} {ys : List PyData} (h : DpAll K H vs ys) : DpAll K H' vs ys := by
  exact DpAll.rec (motive_1 := fun v d _ => Dp K H' v d) (motive_2 := fun vs ds _ => DpAll K H' vs ds) .non .bl .int .str (fun h _ r => .lst (L2.Same.seq s h) r) (fun h _ r => .tup (Same.seqT s h) r) .nil (fun _ _ a b => .cons a b) h
theorem c_srt : COk K (op1 sortedD) (rSrt K) := by
  intro S H xs ds c Q hf h e q
  obtain ⟨d, rfl, e2⟩ := op1_inv e
  replace e := e2
  clear e2
  obtain ⟨v, rfl, hd⟩ := dnl_one h
  clear h
  unfold sortedD at e
  split at e
  · rename_i es
    unfold sortL at e
    cases e1 : toPyL es with
    | none => rw [e1] at e; cases e
    | some ys =>
      rw [e1, Option.bind_some] at e
      cases hk : sortOk ys with
      | false => rw [hk] at e; cases e
      | true =>
        rw [hk] at e
        cases e
        cases hd with
        | lst h r =>
          refine ⟨_, _, ys, rfl, .inl (.inl (cut_some h).2), DpAll.mono cut_same (toPyL_dp es _ ys r e1), hk, fun p hp => ?_⟩
          obtain ⟨g, dn⟩ := lay_lst hf hp (isort_zip (ys := ys) r (toPyL_len e1)).2
          exact q _ _ g dn
  · cases e

/-! ### isinstance -/
def tyD : D → Option String
  | .non => some "NoneType"
  | .bl _ => some "bool"
  | .int _ => some "int"
  | .str _ => some "str"
  | .lst _ => some "list"
  | .tup _ => some "tuple"
  | .dic _ _ => some "dict"
  | .tuk _ => some "tuple"
  | .scr _ => some "list"
  | .ins _ _ => none
theorem rd_tyL {H : Hp} {a : Addr} {xs : List V} (h : SqL K H a xs) : TyX K H (.ref a) (.type "list") := by
  rcases h with (h | ⟨o, h⟩) | ⟨o, its, n, h, c, _⟩
  · exact .base (.lst h)
  · exact .base (.frz h)
  · exact .kList h c
theorem rd_tyT {H : Hp} {a : Addr} {xs : List V} (h : SqT K H a xs) : TyX K H (.ref a) (.type "tuple") := by
  rcases h with (h | ⟨o, h⟩) | ⟨o, its, n, h, c, _⟩
  · exact .base (.tup h)
  · exact .fTuple h
  · exact .kTuple h c
theorem ty_dn {S : List Addr} {H : Hp} {v : V} {d : D} {t : String} (h : Dn K (cut S H) v d) (e : tyD d = some t) : TyX K H v (.type t) := by
  cases h with
  | non => cases e; exact .base .non
  | bl b => cases e; exact .base (.bl b)
  | int i => cases e; exact .base (.int i)
  | str x => cases e; exact .base (.str x)
  | lst h r => cases e; exact .base (.lst (cut_some h).2)
  | tup h r => cases e; exact rd_tyT (seqTc h)
  | tuk h r => cases e; exact rd_tyT (Same.seqT cut_same h)
  | scr h => cases e; exact rd_tyL (L2.Same.seq cut_same h)
  | dk h _ _ => cases e; exact .base (.dK (cut_some h).2)
  | dt h _ _ => cases e; exact .base (.dT (cut_some h).2)
def isiD (T : String) (d : D) : Option D := (tyD d).bind fun t => (kitB t T).map .bl
theorem x_isi {T : String} {TN : Str} {a : Expr} {f : XS} {p p2 pos : Pos} (I : In P w0 K mg base k X N sc φ) (hg : GlN sc "isinstance") (hm : mg "isinstance" = none) (hgT : GlN sc TN) (hmT : mg TN = none) (hbT : bootBuiltins TN = some (.type T) := by first | rfl | decide +kernel)
    (ha : SimX X s a f) (hn : TN ≠ "__name__" := by decide) (hd : NotD TN := by decide) (hs1 : starEach [a, .Name TN p2] X.env = (false, eval a X.env) :: starEach [.Name TN p2] X.env := by rfl) (hs2 : starEach [.Name TN p2] X.env = (false, eval (.Name TN p2) X.env) :: starEach [] X.env := by rfl) (hpl : (backTo pos (starEach [.Name TN p2] X.env)).any (·.1) = false := by rfl) :
    SimX X s (.Call (.Name "isinstance" p) [a, .Name TN p2] [] pos) (x1 (isiD T) f) := by
  have hgl : ∀ {x : Str}, sc.names.lookup x = some .globalImplicit → Gl X x := fun h => I.gl h
  refine PE_mono (pe_callB (call_isi (X := X)) (hgl hg) (by rw [I.mg]; exact hm) (by decide +kernel) (pa_cons ha (pa_cons (pe_bltn (v := .ty T) (hgl hgT) (by rw [I.mg]; exact hmT) hbT rfl hn hd) pa_nil hs2) hs1) (by decide) (by decide) hs1 hpl) fun σ H Q h => ?_
  obtain ⟨T0, H0, w, env, iod, c, iod', R, e, q⟩ := h
  obtain ⟨d, e1, e3⟩ := x1_inv e
  refine ⟨T0, H0, w, env, iod, d, iod', R, e1, fun x H1 P1 d1 => ?_⟩
  unfold isiD at e3
  cases e4 : tyD d with
  | none => rw [e4] at e3; cases e3
  | some t =>
    rw [e4, Option.bind_some] at e3
    cases e5 : kitB t T with
    | none => rw [e5] at e3; cases e3
    | some b =>
      rw [e5] at e3
      cases e3
      exact ⟨x, .ty T, .type t, .type T, b, rfl, .ty T, ty_dn d1 e4, kit_ty e5, q _ H1 P1 (.bl b)⟩
def isi2D (T U : String) (d : D) : Option D := (tyD d).bind fun t => (kitB t T).bind fun a => if a then some (.bl true) else (kitB t U).map .bl
theorem kitAny_nil {t : Value} : PySem.W.kitAny K t [] = some false := rfl
theorem x_isi2 {T U : String} {TN UN : Str} {a : Expr} {f : XS} {p p2 p3 p4 pos : Pos} {kk : Nat} (I : In P w0 K mg base k X N sc φ) (hg : GlN sc "isinstance") (hm : mg "isinstance" = none) (hgT : GlN sc TN) (hmT : mg TN = none) (hgU : GlN sc UN) (hmU : mg UN = none)
    (ha : SimX X s a f) (hbT : bootBuiltins TN = some (.type T) := by first | rfl | decide +kernel) (hbU : bootBuiltins UN = some (.type U) := by first | rfl | decide +kernel) (hn : TN ≠ "__name__" := by decide) (hd : NotD TN := by decide) (hnU : UN ≠ "__name__" := by decide) (hdU : NotD UN := by decide)
    (hs0 : starEach [.Name TN p2, .Name UN p3] X.env = (false, eval (.Name TN p2) X.env) :: starEach [.Name UN p3] X.env := by rfl) (hs00 : starEach [.Name UN p3] X.env = (false, eval (.Name UN p3) X.env) :: starEach [] X.env := by rfl)
    (hs1 : starEach [a, .Tuple [.Name TN p2, .Name UN p3] kk p4] X.env = (false, eval a X.env) :: starEach [.Tuple [.Name TN p2, .Name UN p3] kk p4] X.env := by rfl) (hs2 : starEach [.Tuple [.Name TN p2, .Name UN p3] kk p4] X.env = (false, eval (.Tuple [.Name TN p2, .Name UN p3] kk p4) X.env) :: starEach [] X.env := by rfl)
    (hpl : (backTo pos (starEach [.Tuple [.Name TN p2, .Name UN p3] kk p4] X.env)).any (·.1) = false := by rfl) :
    SimX X s (.Call (.Name "isinstance" p) [a, .Tuple [.Name TN p2, .Name UN p3] kk p4] [] pos) (x1 (isi2D T U) f) := by
  have hgl : ∀ {x : Str}, sc.names.lookup x = some .globalImplicit → Gl X x := fun h => I.gl h
  refine PE_mono (pe_callB (call_isiT (X := X)) (hgl hg) (by rw [I.mg]; exact hm) (by decide +kernel) (pa_cons ha (pa_cons (pe_tup (pa_cons (pe_bltn (v := .ty T) (hgl hgT) (by rw [I.mg]; exact hmT) hbT rfl hn hd) (pa_cons (pe_bltn (v := .ty U) (hgl hgU) (by rw [I.mg]; exact hmU) hbU rfl hnU hdU) pa_nil hs00) hs0)) pa_nil hs2) hs1) (by decide) (by decide) hs1 hpl) fun σ H Q h => ?_
  obtain ⟨T0, H0, w, env, iod, c, iod', R, e, q⟩ := h
  obtain ⟨d, e1, e3⟩ := x1_inv e
  refine ⟨T0, H0, w, env, iod, d, iod', R, e1, fun x H1 P1 d1 => ⟨by show 2 ≤ sizeLine; decide, fun tp hp => ?_⟩⟩
  have P2 := P1.new (o := .tup [.ty T, .ty U]) hp
  have d2 := d1.mono (cut_new (S := w.S T0) (o := .tup [.ty T, .ty U]) hp)
  unfold isi2D at e3
  cases e4 : tyD d with
  | none => rw [e4] at e3; cases e3
  | some t =>
    rw [e4, Option.bind_some] at e3
    cases e5 : kitB t T with
    | none => rw [e5] at e3; cases e3
    | some b =>
      rw [e5, Option.bind_some] at e3
      cases b with
      | true =>
        cases e3
        exact ⟨x, tp, [.ty T, .ty U], .type t, [.type T, .type U], true, rfl, upd_same, .cons (.ty T) (.cons (.ty U) .nil), ty_dn d2 e4, kitAny_cons (kit_ty e5) (fun z => by cases z) (fun _ => rfl), q _ _ P2 (.bl true)⟩
      | false =>
        have e3 : (kitB t U).map D.bl = some c := e3
        cases e6 : kitB t U with
        | none => rw [e6] at e3; cases e3
        | some b2 =>
          rw [e6] at e3
          cases e3
          refine ⟨x, tp, [.ty T, .ty U], .type t, [.type T, .type U], b2, rfl, upd_same, .cons (.ty T) (.cons (.ty U) .nil), ty_dn d2 e4, kitAny_cons (kit_ty e5) (fun _ => kitAny_cons (kit_ty e6) (fun z => ?_) (fun z => ?_)) (fun z => by cases z), q _ _ P2 (.bl b2)⟩
          · rw [z]; rfl
          · exact z
end PL

/-! PL12: calls of defs; owned things read; the io cell read, written, made. -/
namespace PL
open PySem PySem.Spec PyProof.Rows L2
variable {X : Cx} {s s' s2 sl : Sh} {N : List Str} {sc : Scope} {φ : Str → Bool} {P : Program} {w0 : World} {K : PySem.W.Frag} {mg : Str → Option Value} {base : Heap} {k : Nat}

/-! ### calls of defs, in a context -/
section
variable {j : Nat} {f : Addr} {fd : FuncData} {ps : List Str} {x y : Str} {p p' pos : Pos} {e : Expr} {es : List Expr} {g : XLS} {i : Nat}
theorem c_fn {F : List D → Option D} (I : In P w0 K mg base k X N sc φ) (G : OkP P w0 K mg base j f fd ps F) (hj : Nat.ble j k = true) (hm : mg x = some (.ref f)) (hg : GlN sc x)
    (ha : SimL X s (e :: es) g) (hdb : NotD x := by decide) (he : MStar X e es := by rfl)
    (hpl : MPlain X es pos := by rfl) : SimX X s (.Call (.Name x p) (e :: es) [] pos) (xCall F g) := by
  have G' : OkP X.prog X.w X.K X.mg X.base j f fd ps F := by rw [I.prog, I.w, I.K, I.mg, I.base]; exact G
  exact x_fn G' (I.room.mono (Nat.le_of_ble_eq_true hj)) (I.gl hg) (by rw [I.mg]; exact hm) ha hdb he hpl
theorem c_fnN {F : List D → Option D} (I : In P w0 K mg base k X N sc φ) (G : OkN P w0 K mg base j f fd ps F) (hj : Nat.ble j k = true) (hm : mg x = some (.ref f)) (hg : GlN sc x)
    (ha : SimL X s (e :: es) g) (hdb : NotD x := by decide) (he : MStar X e es := by rfl)
    (hpl : MPlain X es pos := by rfl) : SimN X s (.Call (.Name x p) (e :: es) [] pos) (xCall F g) := by
  have G' : OkN X.prog X.w X.K X.mg X.base j f fd ps F := by rw [I.prog, I.w, I.K, I.mg, I.base]; exact G
  exact n_fn G' (I.room.mono (Nat.le_of_ble_eq_true hj)) (I.gl hg) (by rw [I.mg]; exact hm) ha hdb he hpl
theorem c_io {F : D → List D → Option (D × D)} (I : In P w0 K mg base k X N sc φ) (G : OkI P w0 K mg base j f fd ps F) (hj : Nat.ble j k = true) (hm : mg x = some (.ref f)) (hg : GlN sc x) (hi : s.J = some i) (hN : N[i]? = some y) (hv : Vis sc y)
    (ha : SimL X s es g) (hdb : NotD x := by decide) (hd2 : NotD y := by decide) (hcd : NotC y := by decide)
    (he : MStar X (.Name y p') es := by rfl) (hpl : MPlain X es pos := by rfl) : SimX X s (.Call (.Name x p) (.Name y p' :: es) [] pos) (xIo F g) := by
  have G' : OkI X.prog X.w X.K X.mg X.base j f fd ps F := by rw [I.prog, I.w, I.K, I.mg, I.base]; exact G
  exact x_io G' I (I.room.mono (Nat.le_of_ble_eq_true hj)) (I.gl hg) (by rw [I.mg]; exact hm) hi hN hv ha hdb hd2 hcd he hpl
end

/-! ### owned things read: what is got is flat -/
section
variable {T : List Addr} {H0 H : Hp} {w : Ow} {env : Env} {iod : D} {σ : L2.St} {i : Nat} {p : Addr} {d : D}
/-- all but one is cut out -/
theorem sub_cut {S : List Addr} {H : Hp} {p : Addr} : Same (cut S H) (cut (S.filter fun b => b != p) H) := cut_mono (fun b hb => .inl (List.mem_filter.mp hb).1) fun _ _ _ e => e
theorem sub_own {S : List Addr} {H : Hp} {p : Addr} {d : D} (o : Own K (cut S H) H p d) : Dn K (cut (S.filter fun b => b != p) H) (.ref p) d :=
  o.dn sub_cut fun o e => by
    rw [cut_out fun z => ?_]
    · exact e
    · have h := (List.mem_filter.mp z).2
      rw [bne_self_eq_false] at h
      cases h
theorem sub_fresh {S : List Addr} {H : Hp} (hf : Fr S H) : Fr (S.filter fun b => b != p) H := fun q hq => hf q (List.mem_filter.mp hq).1
theorem flat_any {H H' : Hp} {v : V} {d : D} (h : Dn K H v d) (f : flatD d = true) : Dn K H' v d := by
  cases h <;> first | exact .non | exact .bl _ | exact .int _ | exact .str _ | cases f
end
def x2O (op : D → D → Option D) (i : Nat) (g : XS) : XS := fun env io => (g env io).bind fun b => match env[i]? with
  | some (some a) => (op a b.1).bind fun c => if flatD c then some (c, b.2) else none
  | _ => none
def x2O2 (op : D → D → Option D) (g : XS) (i : Nat) : XS := fun env io => (g env io).bind fun b => match env[i]? with
  | some (some a) => (op b.1 a).bind fun c => if flatD c then some (c, b.2) else none
  | _ => none
def xCO (op : D → Option D) (i : Nat) : XS := fun env io => match env[i]? with
  | some (some a) => (op a).bind fun c => if flatD c then some (c, io) else none
  | _ => none
section
variable {i : Nat} {x : Str} {p1 pos : Pos}
theorem tO_sound {K : PySem.W.Frag} {op : D → D → Option D} {r : R2} {i : Nat} {g : XS} (hk : R2Ok K op r) (ho : s.O.contains i = true) (σ : L2.St) (H : Hp) (Q : VK) (h : tX K s (x2O op i g) σ H Q) : tOp r (tVar i) (tX K s g) σ H Q := by
  obtain ⟨T, H0, w, env, iod, d, iod', R, e, q⟩ := h
  unfold x2O at e
  cases e1 : g env iod with
  | none => rw [e1] at e; cases e
  | some b =>
    rw [e1, Option.bind_some] at e
    obtain ⟨p, hp, hσ, d0, h2, h3⟩ := R.ownAt (List.contains_iff_mem.mp ho)
    rw [h2] at e
    have e : ((op d0 b.1).bind fun c => if flatD c then some (c, b.2) else none) = some (d, iod') := e
    cases e2 : op d0 b.1 with
    | none => rw [e2] at e; cases e
    | some c =>
      rw [e2, Option.bind_some] at e
      obtain ⟨hz, e⟩ := if_some e
      cases e
      refine ⟨.ref p, hσ, T, H0, w, env, iod, b.1, b.2, R, e1, fun y H1 P1 d1 => ?_⟩
      obtain ⟨h4, d', h5, h6⟩ := P1.1.own i p hp
      rw [h2] at h5
      cases h5
      refine hk (sub_fresh (p := p) P1.1.frS) (sub_own h6) (d1.mono sub_cut) e2 fun v H' g' d' => ?_
      exact q v H' (P1.trans ⟨P1.1.grow g', cutS g'⟩) (flat_any d' hz)
theorem tO2_sound {K : PySem.W.Frag} {op : D → D → Option D} {r : R2} {i : Nat} {g : XS} (hk : R2Ok K op r) (ho : s.O.contains i = true) (σ : L2.St) (H : Hp) (Q : VK) (h : tX K s (x2O2 op g i) σ H Q) : tOp r (tX K s g) (tVar i) σ H Q := by
  obtain ⟨T, H0, w, env, iod, d, iod', R, e, q⟩ := h
  unfold x2O2 at e
  cases e1 : g env iod with
  | none => rw [e1] at e; cases e
  | some b =>
    rw [e1, Option.bind_some] at e
    obtain ⟨p, hp, hσ, d0, h2, h3⟩ := R.ownAt (List.contains_iff_mem.mp ho)
    rw [h2] at e
    have e : ((op b.1 d0).bind fun c => if flatD c then some (c, b.2) else none) = some (d, iod') := e
    cases e2 : op b.1 d0 with
    | none => rw [e2] at e; cases e
    | some c =>
      rw [e2, Option.bind_some] at e
      obtain ⟨hz, e⟩ := if_some e
      cases e
      refine ⟨T, H0, w, env, iod, b.1, b.2, R, e1, fun y H1 P1 d1 => ?_⟩
      obtain ⟨h4, d', h5, h6⟩ := P1.1.own i p hp
      rw [h2] at h5
      cases h5
      refine ⟨.ref p, h4, hk (sub_fresh (p := p) P1.1.frS) (d1.mono sub_cut) (sub_own h6) e2 fun v H' g' d' => ?_⟩
      exact q v H' (P1.trans ⟨P1.1.grow g', cutS g'⟩) (flat_any d' hz)
/-- x[i] of an owned x -/
theorem x_ownIx {b : Expr} {op : D → D → Option D} {r : R2} {g : XS} (I : In P w0 K mg base k X N sc φ) (hi : N[i]? = some x) (hv : Vis sc x) (hr : IxR X r) (hk : R2Ok X.K op r) (hb : SimX X s b g) (ho : s.O.contains i = true := by rfl) (hs : PlainIx b := by exact fun _ _ => rfl) (hd : NotD x := by decide) (hcd : NotC x := by decide) :
    SimX X s (.Subscript (.Name x p1) b pos) (x2O op i g) := PE_mono (pe_ix hr (pe_slot I hi hv hd hcd) hb hs) (tO_sound hk ho)
/-- e in x of an owned x -/
theorem x_ownCmp {o : CmpOp} {b : Expr} {op : D → D → Option D} {r : R2} {g : XS} (I : In P w0 K mg base k X N sc φ) (hi : N[i]? = some x) (hv : Vis sc x) (hr : OpR X (compareOp o) r) (hk : R2Ok X.K op r) (hb : SimX X s b g) (hm : behindInMarks o (.Name x p1) = false) (ho : s.O.contains i = true := by rfl) (hd : NotD x := by decide) (hcd : NotC x := by decide) :
    SimX X s (.Compare b [o] [.Name x p1] pos) (x2O2 op g i) := PE_mono (pe_cmpR hr hb (pe_slot I hi hv hd hcd) hm) (tO2_sound hk ho)
theorem b_ownCmp {o : CmpOp} {b : Expr} {op : D → D → Option D} {r : R2} {g : XS} (I : In P w0 K mg base k X N sc φ) (hi : N[i]? = some x) (hv : Vis sc x) (hr : OpR X (compareOp o) r) (hk : R2Ok X.K op r) (hb : SimX X s b g) (hm : behindInMarks o (.Name x p1) = false) (ho : s.O.contains i = true := by rfl) (hd : NotD x := by decide) (hcd : NotC x := by decide) :
    SimB X s (.Compare b [o] [.Name x p1] pos) (bX (x2O2 op g i)) := PT_mono (pt_cmpR hr hb (pe_slot I hi hv hd hcd) hm) (tTest_sound (tO2_sound hk ho))
theorem tCO_sound {K : PySem.W.Frag} {op : D → Option D} {r : List V → Hp → VK → Prop} {i : Nat} (hk : COk K (op1 op) r) (ho : s.O.contains i = true) {ta : TA} (hta : ∀ σ H Q v, σ[i]? = some (some v) → Q [v] H → ta σ H Q) (σ : L2.St) (H : Hp) (Q : VK) (h : tX K s (xCO op i) σ H Q) : tCB r ta σ H Q := by
  obtain ⟨T, H0, w, env, iod, d, iod', R, e, q⟩ := h
  unfold xCO at e
  obtain ⟨p, hp, hσ, d0, h2, h3⟩ := R.ownAt (List.contains_iff_mem.mp ho)
  rw [h2] at e
  have e : ((op d0).bind fun c => if flatD c then some (c, iod) else none) = some (d, iod') := e
  cases e2 : op d0 with
  | none => rw [e2] at e; cases e
  | some c =>
    rw [e2, Option.bind_some] at e
    obtain ⟨hz, e⟩ := if_some e
    cases e
    refine hta σ H _ _ hσ ?_
    refine hk (S := (w.S T).filter fun b => b != p) (sub_fresh (p := p) R.frS) (.cons (sub_own h3) .nil) e2 fun v H' g' d' => ?_
    exact q v H' ⟨R.grow g', cutS g'⟩ (flat_any d' hz)
/-- len(x) of an owned x -/
theorem x_ownB {y : Str} {p : Pos} {id : String} {op : D → Option D} {r : List V → Hp → VK → Prop} (I : In P w0 K mg base k X N sc φ) (hi : N[i]? = some x) (hv : Vis sc x) (hc : CallR X (.builtin id) r) (hk : COk X.K (op1 op) r) (hg : GlN sc y) (hm : mg y = none) (hbt : bootBuiltins y = some (.builtin id)) (ho : s.O.contains i = true := by rfl) (hd : NotD x := by decide) (hcd : NotC x := by decide)
    (hn : y ≠ "__name__" := by decide) (hdb : NotD y := by decide) (he : MStar X (.Name x p1) [] := by rfl) (hpl : MPlain X [] pos := by rfl) : SimX X s (.Call (.Name y p) [.Name x p1] [] pos) (xCO op i) :=
  PE_mono (pe_callB hc (I.gl hg) (by rw [I.mg]; exact hm) hbt (pa_cons (pe_slot I hi hv hd hcd) pa_nil he) hn hdb he hpl) (tCO_sound hk ho fun σ H Q v e q => ⟨v, e, q⟩)

/-! ### the io cell -/
/-- hand[i] -/
def xIoIx (g : XS) : XS := fun env io => (g env io).bind fun b => match b.2, b.1 with
  | .lst ds, .int j => (atI ds j).map fun c => (c, b.2)
  | _, _ => none
theorem x_ioIx {b : Expr} {g : XS} (I : In P w0 K mg base k X N sc φ) (hJ : s.J = some i) (hi : N[i]? = some x) (hv : Vis sc x) (hb : SimX X s b g) (hs : PlainIx b := by exact fun _ _ => rfl) (hd : NotD x := by decide) (hcd : NotC x := by decide) :
    SimX X s (.Subscript (.Name x p1) b pos) (xIoIx g) := PE_mono (pe_ix ix_seq (pe_slot I hi hv hd hcd) hb hs) fun σ H Q h => by
  obtain ⟨T, H0, w, env, iod, d, iod', R, e, q⟩ := h
  unfold xIoIx at e
  cases e1 : g env iod with
  | none => rw [e1] at e; cases e
  | some b =>
    rw [e1, Option.bind_some] at e
    obtain ⟨b1, b2⟩ := b
    cases b2 with
    | lst ds =>
      cases b1 with
      | int j =>
        have e : ((atI ds j).map fun c => (c, D.lst ds)) = some (d, iod') := e
        cases e2 : atI ds j with
        | none => rw [e2] at e; cases e
        | some c =>
          rw [e2] at e
          cases e
          obtain ⟨q0, hq, hσ, _⟩ := R.io hJ
          refine ⟨.ref q0, hσ, T, H0, w, env, iod, _, _, R, e1, fun y H1 P1 d1 => ?_⟩
          obtain ⟨q1, hq1, hσ1, o1⟩ := P1.1.io hJ
          rw [hq] at hq1
          cases hq1
          obtain ⟨xs, hx, hr⟩ := own_lst o1
          obtain ⟨v, h1, h2⟩ := atI_dn hr e2
          rw [dn_int d1]
          exact .inl ⟨_, _, _, v, rfl, rfl, .inl (.inl hx), h1, q v H1 P1 h2⟩
      | _ => cases e
    | _ => cases e
/-- hand[i] = e -/
def sIoSet (f g : XS) : SS := fun env io => (f env io).bind fun a => (g env a.2).bind fun b => match b.2, b.1 with
  | .lst ds, .int j => (ixN ds.length j).map fun m => (.nx, env, .lst (ds.set m a.1))
  | _, _ => none
theorem s_ioSet {e ix : Expr} {f g : XS} {p2 : Pos} (I : In P w0 K mg base k X N sc φ) (hJ : s.J = some i) (hi : N[i]? = some x) (hv : Vis sc x) (he : SimX X s e f) (hx : SimX X s ix g)
    (hs : swapsWithSole [.Subscript (.Name x p1) ix p2] e pos.line X.env = pure false := by rfl) (hw : swappedStores [.Subscript (.Name x p1) ix p2] e X.env = pure none := by rfl)
    (h1 : (assignEach [.Subscript (.Name x p1) ix p2] X.env).map (·.2) = [assign (.Subscript (.Name x p1) ix p2) X.env] := by rfl) (hd : NotD x := by decide) (hcd : NotC x := by decide)
    (ha : ∀ v, assign (.Subscript (.Name x p1) ix p2) X.env v = (do
      let ov ← holding [v] (eval (.Name x p1) X.env)
      let iv ← holding [v, ov] (eval ix X.env)
      standAt p2
      holding [v, ov, iv] (setItem ov iv v)
      release [v, ov, iv] []) := by intro _; rfl) : SimS X s s sl (.Assign [.Subscript (.Name x p1) ix p2] e pos) (sIoSet f g) := by
  refine PS_mono (ps_asg he (pg_sub (pe_slot I hi hv hd hcd) hx set_list ha) hs hw h1) fun Z σ H h => ?_
  obtain ⟨T, H0, w, env, iod, fl, env', iod', R, e, q⟩ := h
  unfold sIoSet at e
  cases e1 : f env iod with
  | none => rw [e1] at e; cases e
  | some a =>
    rw [e1, Option.bind_some] at e
    cases e2 : g env a.2 with
    | none => rw [e2] at e; cases e
    | some b =>
      rw [e2, Option.bind_some] at e
      obtain ⟨b1, b2⟩ := b
      cases b2 with
      | lst ds =>
        cases b1 with
        | int j =>
          have e : (ixN ds.length j).map (fun m => (Fl.nx, env, D.lst (ds.set m a.1))) = some (fl, env', iod') := e
          cases e3 : ixN ds.length j with
          | none => rw [e3] at e; cases e
          | some m =>
            rw [e3] at e
            cases e
            obtain ⟨q0, hq, hσ, _⟩ := R.io hJ
            refine ⟨T, H0, w, env, iod, a.1, a.2, R, e1, fun v H1 P1 d1 => ?_⟩
            refine ⟨.ref q0, hσ, T, H0, w, env, a.2, .int j, _, P1.1, e2, fun iv H2 P2 d2 => ?_⟩
            cases d2
            obtain ⟨q1, hq1, hσ1, o1⟩ := P2.1.io hJ
            rw [hq] at hq1
            cases hq1
            obtain ⟨ys, hy, hr⟩ := own_lst o1
            refine ⟨q0, ys, j, m, rfl, rfl, hy, by rw [hr.length]; exact e3, ?_⟩
            have hqS : q0 ∈ w.S T := Ow.mem_io hq
            have P3 := Post.ioSet (H' := upd H2 q0 (.lst (ys.set m v))) (iod' := .lst (ds.set m a.1)) P2.1 hq (fun b o hb e => by rw [upd_ne hb]; exact e) (.lst upd_same (by rw [cut_upd_in hqS]; exact hr.set m (d1.mono P2.2)))
            exact q w σ _ (.inr rfl) ((P1.2.trans P2.2).trans P3.2) P3.1
        | _ => cases e
      | _ => cases e
end
end PL

/-! PL13: parallel assignments; lists new by + and *; the io cell made; makers of OkI, OkN. -/
namespace PL
open PySem PySem.Spec PyProof.Rows L2
variable {X : Cx} {s s' s2 sl : Sh} {N : List Str} {sc : Scope} {φ : Str → Bool} {P : Program} {w0 : World} {K : PySem.W.Frag} {mg : Str → Option Value} {base : Heap} {k : Nat}

/-! ### operators that make a new object -/
def R2New (K : PySem.W.Frag) (op : D → D → Option D) (r : R2) : Prop := ∀ {S : List Addr} {H : Hp} {x y : V} {a b c : D} {Q : VK}, Fr S H → Dn K (cut S H) x a → Dn K (cut S H) y b → op a b = some c →
  (∀ p H', Same H H' → H p = none → Own K (cut (p :: S) H') H' p c → Q (.ref p) H') → r x y H Q
theorem cut_cons {S : List Addr} {H H' : Hp} {p : Addr} (g : Same H H') (hp : H p = none) : Same (cut S H) (cut (p :: S) H') := cut_mono (fun b hb => by
  rcases List.mem_cons.mp hb with z | z
  · exact .inr (by rw [z]; exact hp)
  · exact .inl z) fun b o _ e => g b o e
theorem k_addLN : R2New K addL rCat := by
  intro S H x y a b c Q hf ha hb e q
  unfold addL at e
  split at e
  · obtain ⟨hz, e⟩ := if_some e
    cases e
    cases ha with
    | lst h r =>
      cases hb with
      | lst h' r' =>
        refine ⟨_, _, _, _, rfl, rfl, (cut_some h).2, (cut_some h').2, by rw [r.length, r'.length]; exact szL_ok hz, fun p hp => ?_⟩
        exact q p _ (same_new hp) hp (.lst upd_same ((r.append r').mono (cut_cons (same_new hp) hp)))
  · cases e
theorem k_repLN : R2New K repL rRep := by
  intro S H x y a b c Q hf ha hb e q
  unfold repL at e
  split at e
  · obtain ⟨hz, e⟩ := if_some e
    cases e
    rw [Bool.and_eq_true] at hz
    obtain ⟨z1, z2⟩ := small62_ok hz.1
    cases ha with
    | lst h r =>
      rw [dn_int hb]
      refine ⟨_, _, _, rfl, rfl, (cut_some h).2, by omega, by omega, by rw [r.length]; exact szL_ok hz.2, fun p hp => ?_⟩
      exact q p _ (same_new hp) hp (.lst upd_same ((r.rep _).mono (cut_cons (same_new hp) hp)))
  · cases e
theorem n_bin {o : Operator} {r : R2} {op : D → D → Option D} {a b : Expr} {f g : XS} {pos : Pos} (ho : OpR X (binaryOp o) r) (hk : R2New X.K op r) (ha : SimX X s a f) (hb : SimX X s b g) : SimN X s (.BinOp a o b pos) (x2 op f g) :=
  PE_mono (pe_op ho ha hb) fun σ H Q h => by
    obtain ⟨T, H0, w, env, iod, c, iod', R, e, q⟩ := h
    obtain ⟨a, io1, b, e1, e2, e3⟩ := x2_inv e
    refine ⟨T, H0, w, env, iod, a, io1, R, e1, fun x H1 P1 d1 => ?_⟩
    refine ⟨T, H0, w, env, io1, b, iod', P1.1, e2, fun y H2 P2 d2 => ?_⟩
    exact hk P2.1.frS (d1.mono P2.2) d2 e3 fun p H' g hp o => lay_q (P1.trans P2) g hp o q

/-! ### a, b = x, y -/
def sPar (i j : Nat) (f : XLS) : SS := fun env io => (f env io).bind fun a => match a.1 with
  | [u, v] => some (.nx, (env.set i (some u)).set j (some v), a.2)
  | _ => none
def sPar3 (i j l : Nat) (f : XLS) : SS := fun env io => (f env io).bind fun a => match a.1 with
  | [u, v, w] => some (.nx, ((env.set i (some u)).set j (some v)).set l (some w), a.2)
  | _ => none
section
variable {i j l : Nat} {x y z : Str} {a b c : Expr} {px py pz pt pos pt2 : Pos} {kt k2 : Nat} {f : XLS}
theorem s_par (I : In P w0 K mg base k X N sc φ) (hi : N[i]? = some x) (hj : N[j]? = some y) (hx : sc.names.lookup x = some .local) (hy : sc.names.lookup y = some .local) (ha : SimL X s [a, b] f) (hij : i ≠ j := by decide) (oi : okS s i = true := by rfl) (oj : okS s j = true := by rfl)
    (hw : swappedStores [.Tuple [.Name x px, .Name y py] kt pt] (.Tuple [a, b] k2 pt2) X.env = pure (some [x, y]) := by rfl)
    (hs : swapsWithSole [.Tuple [.Name x px, .Name y py] kt pt] (.Tuple [a, b] k2 pt2) pos.line X.env = pure false := by rfl) :
    SimS X s s sl (.Assign [.Tuple [.Name x px, .Name y py] kt pt] (.Tuple [a, b] k2 pt2) pos) (sPar i j f) :=
  PS_mono (ps_par I.calm (by rw [I.hN]; exact I.nd) (by rw [I.hN]; exact hi) (by rw [I.hN]; exact hj) hij (by rw [I.hs]; exact hx) (by rw [I.hs]; exact hy) ha hw hs) fun Z σ H h => by
    obtain ⟨T, H0, w, env, iod, fl, env', iod', R, e, q⟩ := h
    unfold sPar at e
    cases e1 : f env iod with
    | none => rw [e1] at e; cases e
    | some a =>
      rw [e1, Option.bind_some] at e
      obtain ⟨a1, a2⟩ := a
      match a1, e1, e with
      | [u, v], e1, e =>
        cases e
        refine ⟨T, H0, w, env, iod, _, _, R, e1, fun vs H1 P1 d1 => ?_⟩
        cases d1 with
        | cons du d1 =>
          cases d1 with
          | cons dv d1 =>
            cases d1
            exact ⟨_, _, rfl, q w _ H1 (.inr rfl) P1.2 ((P1.1.setX (okS_ok oi).1 (okS_ok oi).2 du).setX (okS_ok oj).1 (okS_ok oj).2 dv)⟩
      | [], _, e => cases e
      | [_], _, e => cases e
      | _ :: _ :: _ :: _, _, e => cases e
theorem s_par3 (I : In P w0 K mg base k X N sc φ) (hi : N[i]? = some x) (hj : N[j]? = some y) (hl : N[l]? = some z) (hx : sc.names.lookup x = some .local) (hy : sc.names.lookup y = some .local) (hz : sc.names.lookup z = some .local) (ha : SimL X s [a, b, c] f) (hij : i ≠ j := by decide) (hil : i ≠ l := by decide) (hjl : j ≠ l := by decide) (oi : okS s i = true := by rfl) (oj : okS s j = true := by rfl) (ol : okS s l = true := by rfl)
    (hw : swappedStores [.Tuple [.Name x px, .Name y py, .Name z pz] kt pt] (.Tuple [a, b, c] k2 pt2) X.env = pure (some [x, y, z]) := by rfl)
    (hs : swapsWithSole [.Tuple [.Name x px, .Name y py, .Name z pz] kt pt] (.Tuple [a, b, c] k2 pt2) pos.line X.env = pure false := by rfl) :
    SimS X s s sl (.Assign [.Tuple [.Name x px, .Name y py, .Name z pz] kt pt] (.Tuple [a, b, c] k2 pt2) pos) (sPar3 i j l f) :=
  PS_mono (ps_par3 I.calm (by rw [I.hN]; exact I.nd) (by rw [I.hN]; exact hi) (by rw [I.hN]; exact hj) (by rw [I.hN]; exact hl) hij hil hjl (by rw [I.hs]; exact hx) (by rw [I.hs]; exact hy) (by rw [I.hs]; exact hz) ha hw hs) fun Z σ H h => by
    obtain ⟨T, H0, w, env, iod, fl, env', iod', R, e, q⟩ := h
    unfold sPar3 at e
    cases e1 : f env iod with
    | none => rw [e1] at e; cases e
    | some a =>
      rw [e1, Option.bind_some] at e
      obtain ⟨a1, a2⟩ := a
      match a1, e1, e with
      | [u, v, t], e1, e =>
        cases e
        refine ⟨T, H0, w, env, iod, _, _, R, e1, fun vs H1 P1 d1 => ?_⟩
        cases d1 with
        | cons du d1 =>
          cases d1 with
          | cons dv d1 =>
            cases d1 with
            | cons dt d1 =>
              cases d1
              exact ⟨_, _, _, rfl, q w _ H1 (.inr rfl) P1.2 (((P1.1.setX (okS_ok oi).1 (okS_ok oi).2 du).setX (okS_ok oj).1 (okS_ok oj).2 dv).setX (okS_ok ol).1 (okS_ok ol).2 dt)⟩
      | [], _, e => cases e
      | [_], _, e => cases e
      | [_, _], _, e => cases e
      | _ :: _ :: _ :: _ :: _, _, e => cases e
/-- a plain, b new -/
def sParXN (i j : Nat) (f g : XS) : SS := fun env io => (f env io).bind fun a => (g env a.2).bind fun b => if Nat.blt j env.length then some (.nx, (env.set i (some a.1)).set j (some b.1), b.2) else none
theorem s_parXN {f g : XS} (I : In P w0 K mg base k X N sc φ) (hi : N[i]? = some x) (hj : N[j]? = some y) (hx : sc.names.lookup x = some .local) (hy : sc.names.lookup y = some .local) (ha : SimX X s a f) (hb : SimN X s b g) (hij : i ≠ j := by decide) (oi : okS s i = true := by rfl) (oj : okS s j = true := by rfl)
    (hs1 : MStar X a [b] := by rfl) (hs2 : MStar X b [] := by rfl)
    (hw : swappedStores [.Tuple [.Name x px, .Name y py] kt pt] (.Tuple [a, b] k2 pt2) X.env = pure (some [x, y]) := by rfl)
    (hs : swapsWithSole [.Tuple [.Name x px, .Name y py] kt pt] (.Tuple [a, b] k2 pt2) pos.line X.env = pure false := by rfl) :
    SimS X s (s.add j) sl (.Assign [.Tuple [.Name x px, .Name y py] kt pt] (.Tuple [a, b] k2 pt2) pos) (sParXN i j f g) :=
  PS_mono (ps_par I.calm (by rw [I.hN]; exact I.nd) (by rw [I.hN]; exact hi) (by rw [I.hN]; exact hj) hij (by rw [I.hs]; exact hx) (by rw [I.hs]; exact hy) (pa_cons ha (pa_cons hb pa_nil hs2) hs1) hw hs) fun Z σ H h => by
    obtain ⟨T, H0, w, env, iod, fl, env', iod', R, e, q⟩ := h
    unfold sParXN at e
    cases e1 : f env iod with
    | none => rw [e1] at e; cases e
    | some a =>
      rw [e1, Option.bind_some] at e
      cases e2 : g env a.2 with
      | none => rw [e2] at e; cases e
      | some b =>
        rw [e2, Option.bind_some] at e
        obtain ⟨hlt, e⟩ := if_some e
        cases e
        refine ⟨T, H0, w, env, iod, a.1, a.2, R, e1, fun v H1 P1 d1 => ⟨T, H0, w, env, a.2, b.1, b.2, P1.1, e2, fun p H2 R2 cs h0 o => ⟨_, _, rfl, ?_⟩⟩⟩
        have R3 := R2.setX (i := i) (okS_ok oi).1 (okS_ok oi).2 (d1.mono cs)
        obtain ⟨R4, ec⟩ := R3.own_new (i := j) (by rw [List.length_set]; exact Nat.le_of_ble_eq_true hlt) oj h0 o
        exact q ⟨w.io, (j, p) :: w.A⟩ _ H2 (.inr rfl) (by rw [ec]; exact P1.2.trans cs) R4
end

/-! ### the io cell made -/
def sIoNew (f : XS) (i : Nat) : SS := fun env io => (f env io).bind fun a => if Nat.blt i env.length then some (.nx, env.set i none, a.1) else none
theorem s_ioNew {i : Nat} {x : Str} {e : Expr} {f : XS} {pos pos' : Pos} (I : In P w0 K mg base k X N sc φ) (hi : N[i]? = some x) (hx : Loc sc x) (he : SimN X s e f) (hJ : s.J = none := by rfl) (ho : okS s i = true := by rfl) (hs : swapsWith e (some (.Name x pos')) pos.line X.env = pure false := by rfl)
    (hf : φ x = true ∨ sc.names.lookup x = some .local := by first | exact .inr rfl | exact .inl rfl | assumption) : SimS X s ⟨some i, s.O⟩ sl (.Assign [.Name x pos'] e pos) (sIoNew f i) :=
  PS_mono (ps_set (i := i) (by rw [I.hN]; exact I.nd) (by rw [I.hN]; exact hi) (by rw [I.hs]; exact hx) he hs (by rw [I.hs, I.hfn]; exact hf)) fun Z σ H h => by
    obtain ⟨T, H0, w, env, iod, fl, env', iod', R, e, q⟩ := h
    unfold sIoNew at e
    cases e1 : f env iod with
    | none => rw [e1] at e; cases e
    | some a =>
      rw [e1, Option.bind_some] at e
      obtain ⟨hlt, e⟩ := if_some e
      cases e
      refine ⟨T, H0, w, env, iod, a.1, a.2, R, e1, fun p H1 R1 cs h0 o => ?_⟩
      have hlt : i < env.length := Nat.le_of_ble_eq_true hlt
      have hio : w.io = none := by
        cases z : w.io with
        | none => rfl
        | some q0 =>
          obtain ⟨_, j, h2, _⟩ := R1.ioY q0 z
          rw [hJ] at h2
          cases h2
      obtain ⟨h1, h2⟩ := okS_ok ho
      have hS : ∀ b, b ∈ (Ow.mk (some p) w.A).S T ↔ b ∈ w.S (p :: T) := fun b => by
        unfold Ow.S
        rw [hio]
        simp only [Option.toList, List.nil_append, List.cons_append, List.mem_append, List.mem_cons]
        constructor
        · rintro (z | z | z)
          · exact .inr (.inl z)
          · exact .inl z
          · exact .inr (.inr z)
        · rintro (z | z | z)
          · exact .inr (.inl z)
          · exact .inl z
          · exact .inr (.inr z)
      have ec : cut ((Ow.mk (some p) w.A).S T) H1 = cut (w.S (p :: T)) H1 := cut_congr hS
      have hiσ : i < σ.length := by rw [← R1.len]; exact hlt
      refine q ⟨some p, w.A⟩ _ H1 (.inl ⟨hio, fun q0 hq0 => by cases hq0; exact h0⟩) (by rw [ec]; exact cs) ⟨by rw [List.length_set, List.length_set]; exact R1.len, R1.sh, R1.ndO, fun j d' hj e => ?_, fun j p' hp' => ?_, fun q0 hq0 => ?_, fun z => (by cases z), ?_, fun t ht => R1.tal t (List.mem_cons_of_mem _ ht), fun b o e _ => R1.base b o e (by rw [hio]; intro z; cases z), R1.fresh⟩
      · have hij : i ≠ j := fun z => by
          subst z
          rw [List.getElem?_set_self hlt] at e
          cases e
        rw [List.getElem?_set_ne hij] at e ⊢
        rw [ec]
        exact R1.val j d' hj e
      · rw [ec]
        have hij : i ≠ j := fun z => h1 (by rw [z, ← R1.sh]; exact List.mem_map.mpr ⟨(j, p'), hp', rfl⟩)
        rw [List.getElem?_set_ne hij, List.getElem?_set_ne hij]
        exact R1.own j p' hp'
      · cases hq0
        rw [ec]
        exact ⟨o, i, rfl, List.getElem?_set_self hiσ, List.getElem?_set_self hlt, h1⟩
      · have nd := R1.nd
        unfold Ow.S at nd ⊢
        rw [hio] at nd
        have nd : (w.A.map (·.2) ++ p :: T).Nodup := nd
        show (p :: (w.A.map (·.2) ++ T)).Nodup
        exact (List.Perm.nodup_iff List.perm_middle).mp nd

/-! ### makers -/
/-- the pure semantics of a def with the io cell -/
def fnI (n m : Nat) (body : SS) : D → List D → Option (D × D) := fun h ds => if ds.length + 1 == n then (body (none :: (ds.map some ++ List.replicate (m - n) none)) h).bind fun r => match r.1 with
  | .rt d => some (d, r.2.2)
  | .nx => some (.non, r.2.2)
  | _ => none
  else none
abbrev sI : Sh := ⟨some 0, []⟩
theorem fnI_len {n m : Nat} {body : SS} {h : D} {ds : List D} {r : D × D} (e : fnI n m body h ds = some r) : ds.length + 1 = n := by
  unfold fnI at e
  cases e1 : (ds.length + 1 == n) with
  | true => exact eq_of_beq e1
  | false => rw [e1] at e; cases e
theorem fnI_inv {n m : Nat} {body : SS} {h : D} {ds : List D} {d h' : D} (e : fnI n m body h ds = some (d, h')) : ∃ fl env, body (none :: (ds.map some ++ List.replicate (m - n) none)) h = some (fl, env, h') ∧ ((fl = .rt d) ∨ (fl = .nx ∧ d = .non)) := by
  have hl := fnI_len e
  unfold fnI at e
  rw [hl, beq_self_eq_true, if_pos rfl] at e
  cases e1 : body (none :: (ds.map some ++ List.replicate (m - n) none)) h with
  | none => rw [e1] at e; cases e
  | some r =>
    rw [e1, Option.bind_some] at e
    obtain ⟨fl, env, io⟩ := r
    cases fl with
    | nx => cases e; exact ⟨_, _, rfl, .inr ⟨rfl, rfl⟩⟩
    | rt d' => cases e; exact ⟨_, _, rfl, .inl rfl⟩
    | bk => cases e
    | ct => cases e
theorem start_cons {M : List Str} {v : V} {vs : List V} : ∃ τ, L2.start M (v :: vs) = some v :: τ := ⟨_, rfl⟩
theorem relI {S T : List Addr} {H : Hp} {q : Addr} {us : List V} {ds : List D} {h : D} {M : List Str} {n : Nat} (hn : us.length + 1 = n) (hT : T = S.erase q) (hq : q ∈ S) (hS : Fr S H) (nd : S.Nodup) (hd : DnL K (cut S H) us ds) (ho : Own K (cut S H) H q h) :
    Rel K T H sI ⟨some q, []⟩ (none :: (ds.map some ++ List.replicate (M.length - n) none)) h (L2.start M (.ref q :: us)) H ∧ ∀ H', cut ((Ow.mk (some q) []).S T) H' = cut S H' := by
  have hS2 : ∀ b, b ∈ (Ow.mk (some q) []).S T ↔ b ∈ S := fun b => by
    unfold Ow.S
    rw [hT]
    show b ∈ q :: ([] ++ S.erase q) ↔ b ∈ S
    rw [List.nil_append, List.mem_cons]
    constructor
    · rintro (z | z)
      · rw [z]; exact hq
      · exact List.mem_of_mem_erase z
    · intro z
      by_cases e : b = q
      · exact .inl e
      · exact .inr ((List.mem_erase_of_ne e).mpr z)
  have ec : ∀ H', cut ((Ow.mk (some q) []).S T) H' = cut S H' := fun H' => cut_congr hS2
  refine ⟨⟨?_, rfl, List.nodup_nil, fun i d _ e => ?_, fun i p hp => (by cases hp), fun q0 hq0 => ?_, fun z => (by cases z), ?_, fun t ht => ?_, fun b o e _ => e, fun i p hp => (by cases hp)⟩, ec⟩
  · unfold L2.start
    simp only [List.length_cons, List.length_append, List.length_map, List.length_replicate, hd.length]
    rw [hd.length] at hn
    omega
  · rw [ec]
    cases i with
    | zero => cases e
    | succ i =>
      have e : (ds.map some ++ List.replicate (M.length - n) none)[i]? = some (some d) := by simpa using e
      have hi : i < ds.length := by
        by_cases hi : i < ds.length
        · exact hi
        · rw [List.getElem?_append_right (by rw [List.length_map]; omega), List.getElem?_replicate] at e
          split at e <;> cases e
      rw [List.getElem?_append_left (by rw [List.length_map]; exact hi), List.getElem?_map] at e
      cases e1 : ds[i]? with
      | none => rw [e1] at e; cases e
      | some d' =>
        rw [e1] at e
        cases e
        obtain ⟨v, h1, h2⟩ := hd.get e1
        refine ⟨v, ?_, h2⟩
        unfold L2.start
        have hv : i < us.length := by rw [hd.length]; exact hi
        show ((some (V.ref q) :: us.map some) ++ _)[i + 1]? = _
        rw [List.cons_append, List.getElem?_cons_succ, List.getElem?_append_left (by rw [List.length_map]; exact hv), List.getElem?_map, h1]
        rfl
  · cases hq0
    rw [ec]
    exact ⟨ho, 0, rfl, rfl, rfl, List.not_mem_nil⟩
  · unfold Ow.S
    rw [hT]
    show (q :: ([] ++ S.erase q)).Nodup
    rw [List.nil_append]
    exact List.nodup_cons.mpr ⟨fun z => (nd.mem_erase_iff.mp z).1 rfl, nd.erase q⟩
  · rw [hT] at ht
    exact hS t (List.mem_of_mem_erase ht)
section
variable {x qual : Str} {params : Arguments} {body : List Stmt} {scope : Scope} {f : Addr} {fd : FuncData} {M ps : List Str} {g : SS} {w : World}
/-- THE RULE for a def whose first argument is the io cell -/
theorem okI (F : FunD K x qual params body scope [] [] f fd) (S : FnScope M ps scope) (bi : L2.Binds K fd ps []) (h : ∀ X, In P w K mg base k X M scope (fun _ => true) → SimSs X sI s' sl body g) : OkI P w K mg base (k + 1) f fd ps (fnI ps.length M.length g) := by
  refine ⟨F.ok S (fun vs H Q E h => ?_) (fun cdv A outer st H vs Q E hr h1 => ?_), fun h ds d e => fnI_len e, F.kp, bi⟩
  · obtain ⟨hl, p, us, S0, h0, ds, d, h', rfl, _, _, _, hd, _, e, _⟩ := h
    have := fnI_len e
    omega
  · refine ⟨tS K sI s' sl g, PSs.nox (h _ ⟨rfl, rfl, rfl, S.nd, rfl, rfl, rfl, rfl, rfl, rfl, hr, rfl⟩), ?_⟩
    obtain ⟨hl, p, us, S0, h0, ds, d, h', rfl, hp, nd, hS, hd, ho, e, q⟩ := h1
    obtain ⟨fl, env, e1, e2⟩ := fnI_inv e
    have hlen := fnI_len e
    obtain ⟨R0, ec⟩ := relI (M := M) (n := ps.length) (by rw [hd.length]; exact hlen) rfl hp hS nd hd ho
    refine ⟨S0.erase p, H, ⟨some p, []⟩, _, h0, fl, env, h', R0, e1, fun w' σ' H' hio cs => ?_⟩
    have hio2 : w'.io = some p := by
      rcases hio with ⟨z, _⟩ | z
      · cases z
      · exact z
    have hsub : ∀ b, b ∈ S0 → b ∈ w'.S (S0.erase p) := fun b hb => by
      by_cases z : b = p
      · rw [z]; exact Ow.mem_io hio2
      · exact Ow.mem_T ((List.mem_erase_of_ne z).mpr hb)
    have c2 : Same (cut (w'.S (S0.erase p)) H') (cut S0 H') := cut_mono (fun b hb => .inl (hsub b hb)) fun _ _ _ e => e
    have fin : ∀ {sr : Sh} {v : V}, Rel K (S0.erase p) H sr w' env h' σ' H' → Dn K (cut (w'.S (S0.erase p)) H') v d → Q v H' := fun R dv => by
      refine q _ H' (fun b o hb e => R.base b o e fun z => ?_) ((R.ioY p hio2).1.mono c2 fun _ e => e) (dv.mono c2)
      rw [hio2] at z
      cases z
      exact hb rfl
    rcases e2 with rfl | ⟨rfl, rfl⟩
    · exact fun sr v R dv => fin R dv
    · exact fun R => fin R .non
/-- the pure semantics of a def: a statement, then its result, a new object -/
def fnN (n m : Nat) (st : SS) (r : XS) : List D → Option D := fun ds => if ds.length == n then (st (env0 n m ds) .non).bind fun a => match a.1 with
  | .nx => (r a.2.1 a.2.2).map fun c => c.1
  | _ => none
  else none
theorem fnN_len {n m : Nat} {st : SS} {r : XS} {ds : List D} {d : D} (h : fnN n m st r ds = some d) : ds.length = n := by
  unfold fnN at h
  cases e : (ds.length == n) with
  | true => exact eq_of_beq e
  | false => rw [e] at h; cases h
theorem okN {st : Stmt} {e : Expr} {pos : Pos} {r : XS} (F : FunD K x qual params [st, .Return (some e) pos] scope [] [] f fd) (S : FnScope M ps scope) (bi : L2.Binds K fd ps []) (h : ∀ X, In P w K mg base k X M scope (fun _ => true) → SimS X s0 s' s0 st g)
    (h2 : ∀ X, In P w K mg base k X M scope (fun _ => true) → SimN X s' e r) : OkN P w K mg base (k + 1) f fd ps (fnN ps.length M.length g r) := by
  refine ⟨F.ok S (fun vs H Q E h => h.1) (fun cdv A outer st H vs Q E hr h1 => ?_), fun ds d e => fnN_len e, F.kp, bi⟩
  have I : In P w K mg base k (cxOf CX0 P w K mg base M qual scope f cdv A outer st H E).nox M scope (fun _ => true) := ⟨rfl, rfl, rfl, S.nd, rfl, rfl, rfl, rfl, rfl, rfl, hr, rfl⟩
  refine ⟨_, PSs.nox (pss_cons (h _ I) (pss_one (ps_ret (h2 _ I)))), ?_⟩
  obtain ⟨hl, T, ds, d, nd, hS, hd, e, q⟩ := h1
  have hlen := fnN_len e
  unfold fnN at e
  rw [hlen, beq_self_eq_true, if_pos rfl] at e
  cases e1 : g (env0 ps.length M.length ds) .non with
  | none => rw [e1] at e; cases e
  | some a =>
    rw [e1, Option.bind_some] at e
    obtain ⟨fl, env, io⟩ := a
    cases fl with
    | nx =>
      have e : (r env io).map (fun c => c.1) = some d := e
      cases e2 : r env io with
      | none => rw [e2] at e; cases e
      | some c =>
        rw [e2] at e
        cases e
        refine ⟨T, H, ⟨none, []⟩, _, .non, .nx, env, io, rel0 hS nd hd, by rw [hl]; exact e1, fun w' σ' H' hio cs => ?_⟩
        intro R
        refine ⟨T, H, w', env, io, c.1, c.2, R, e2, fun p H2 R2 cs2 h0 o => ?_⟩
        have hio2 : ∀ b o, H b = some o → w'.io ≠ some b := fun b o e z => by
          rcases hio with ⟨_, y⟩ | y
          · rw [y b z] at e; cases e
          · rw [y] at z; cases z
        refine q p H2 (fun b o e => R2.base b o e (hio2 b o e)) h0 (o.mono (cut_mono (fun b hb => .inl ?_) fun _ _ _ e => e) fun _ e => e)
        rcases List.mem_cons.mp hb with z | z
        · exact Ow.mem_T (by rw [z]; exact List.mem_cons_self)
        · exact Ow.mem_T (List.mem_cons_of_mem _ z)
    | _ => cases e
end
end PL

/-! PL14: dicts; sorted of a dict with tuples as keys; len of a set; any of ints. -/
namespace PL
open PySem PySem.Spec PyProof.Rows L2
variable {X : Cx} {s s' s2 sl : Sh} {N : List Str} {sc : Scope} {φ : Str → Bool} {P : Program} {w0 : World} {K : PySem.W.Frag} {mg : Str → Option Value} {base : Heap} {k : Nat}

/-! ### {} -/
theorem n_dnew0 {pos : Pos} : SimN X s (.Dict [] [] pos) (xC (.dic 0 [])) := PE_mono pe_dnewK fun σ H Q h => by
  obtain ⟨T, H0, w, env, iod, d, iod', R, e, q⟩ := h
  cases e
  intro p hp
  exact q p _ (R.lay (same_new hp) hp (cell_upd fun _ z => by cases z)) (cut_lay (same_new hp) hp) (R.none0 hp) (.dk upd_same rfl .nil)
theorem n_dnew1 {pos : Pos} : SimN X s (.Dict [] [] pos) (xC (.dic 1 [])) := PE_mono pe_dnewT fun σ H Q h => by
  obtain ⟨T, H0, w, env, iod, d, iod', R, e, q⟩ := h
  cases e
  intro p hp
  exact q p _ (R.lay (same_new hp) hp (cell_upd fun _ z => by cases z)) (cut_lay (same_new hp) hp) (R.none0 hp) (.dt upd_same rfl .nil)

/-! ### keys -/
def keyD : D → Option Key
  | .int i => some (.inl i)
  | .str x => some (.inr x)
  | _ => none
def keysD : List D → Option (List Key)
  | [] => some []
  | d :: ds => (keyD d).bind fun k => (keysD ds).map fun ks => k :: ks
def eqK : D → D → Bool
  | .int i, .int j => decide (i = j)
  | .str x, .str y => decide (x = y)
  | _, _ => false
def eqKs : List D → List D → Bool
  | [], [] => true
  | a :: as, b :: bs => eqK a b && eqKs as bs
  | _, _ => false
def eqKT : D → D → Bool
  | .tup xs, .tup ys => eqKs xs ys
  | _, _ => false
theorem eqK_kD (a b : Key) : eqK (kD a) (kD b) = decide (a = b) := by
  cases a <;> cases b <;> simp [kD, eqK]
theorem eqKs_kD : ∀ (as bs : List Key), eqKs (as.map kD) (bs.map kD) = decide (as = bs)
  | [], [] => by simp [eqKs]
  | [], _ :: _ => by simp [eqKs]
  | _ :: _, [] => by simp [eqKs]
  | a :: as, b :: bs => by
    rw [List.map_cons, List.map_cons, eqKs, eqK_kD, eqKs_kD as bs]
    by_cases h : a = b <;> by_cases h2 : as = bs <;> simp [h, h2]
theorem eqKT_kD (as bs : List Key) : eqKT (.tup (as.map kD)) (.tup (bs.map kD)) = decide (as = bs) := eqKs_kD as bs
theorem keyD_inv {d : D} {k : Key} (h : keyD d = some k) : d = kD k := by
  cases d <;> cases h <;> rfl
theorem keysD_inv : ∀ {ds : List D} {ks : List Key}, keysD ds = some ks → ds = ks.map kD
  | [], _, h => by cases h; rfl
  | d :: ds, ks, h => by
    unfold keysD at h
    cases e1 : keyD d with
    | none => rw [e1] at h; cases h
    | some k =>
      rw [e1, Option.bind_some] at h
      cases e2 : keysD ds with
      | none => rw [e2] at h; cases h
      | some ks' =>
        rw [e2] at h
        cases h
        rw [List.map_cons, keyD_inv e1, keysD_inv e2]
theorem kV_dn {H : Hp} {v : V} {k : Key} (h : Dn K H v (kD k)) : v = kV k := by
  cases k with
  | inl i => exact dn_int h
  | inr x => exact dn_str h
theorem kVs_dn {H : Hp} : ∀ {vs : List V} {ks : List Key}, DnL K H vs (ks.map kD) → vs = ks.map kV
  | _, [], h => by cases h; rfl
  | _, k :: ks, h => by
    rw [List.map_cons] at h
    cases h with
    | cons h r => rw [List.map_cons, kV_dn h, kVs_dn r]
/-- in its place, or at the end -/
def putE (eq : D → D → Bool) (es : List (D × D)) (k v : D) : List (D × D) := if es.any (fun e => eq e.1 k) then es.map (fun e => if eq e.1 k then (e.1, v) else e) else es ++ [(k, v)]
section
variable {κ : Type} [DecidableEq κ] {g : κ → D} {eq : D → D → Bool}
theorem any_keys (hg : ∀ a b, eq (g a) (g b) = decide (a = b)) (k : κ) : ∀ {es : List (D × D)} {kvs : List (κ × V)}, es.map (·.1) = kvs.map (fun p => g p.1) → es.any (fun e => eq e.1 (g k)) = kvs.any fun kv => decide (kv.1 = k)
  | [], [], _ => rfl
  | [], _ :: _, h => by cases h
  | _ :: _, [], h => by cases h
  | e :: es, p :: kvs, h => by
    rw [List.map_cons, List.map_cons] at h
    obtain ⟨h1, h2⟩ := List.cons.inj h
    rw [List.any_cons, List.any_cons, any_keys hg k h2, h1, hg]
theorem map_keys {H : Hp} (hg : ∀ a b, eq (g a) (g b) = decide (a = b)) (k : κ) {v : V} {d : D} (hv : Dn K H v d) : ∀ {es : List (D × D)} {kvs : List (κ × V)}, es.map (·.1) = kvs.map (fun p => g p.1) → DnL K H (kvs.map (·.2)) (es.map (·.2)) →
    (es.map fun e => if eq e.1 (g k) then (e.1, d) else e).map (·.1) = (kvs.map fun kv => if kv.1 = k then (kv.1, v) else kv).map (fun p => g p.1) ∧
    DnL K H ((kvs.map fun kv => if kv.1 = k then (kv.1, v) else kv).map (·.2)) ((es.map fun e => if eq e.1 (g k) then (e.1, d) else e).map (·.2))
  | [], [], _, _ => ⟨rfl, .nil⟩
  | [], _ :: _, h, _ => by cases h
  | _ :: _, [], h, _ => by cases h
  | e :: es, p :: kvs, h, r => by
    rw [List.map_cons, List.map_cons] at h
    obtain ⟨h1, h2⟩ := List.cons.inj h
    rw [List.map_cons, List.map_cons] at r
    cases r with
    | cons r1 r2 =>
      obtain ⟨g1, g2⟩ := map_keys hg k hv h2 r2
      have e1 : eq e.1 (g k) = decide (p.1 = k) := by rw [h1, hg]
      by_cases hp : p.1 = k
      · rw [decide_eq_true hp] at e1
        refine ⟨?_, ?_⟩
        · rw [List.map_cons, List.map_cons, List.map_cons, List.map_cons, g1, e1, if_pos rfl, if_pos hp]
          show e.1 :: _ = _
          rw [h1]
        · rw [List.map_cons, List.map_cons, List.map_cons, List.map_cons, e1, if_pos rfl, if_pos hp]
          exact .cons hv g2
      · rw [decide_eq_false hp] at e1
        refine ⟨?_, ?_⟩
        · rw [List.map_cons, List.map_cons, List.map_cons, List.map_cons, g1, e1, if_neg Bool.false_ne_true, if_neg hp]
          show e.1 :: _ = _
          rw [h1]
        · rw [List.map_cons, List.map_cons, List.map_cons, List.map_cons, e1, if_neg Bool.false_ne_true, if_neg hp]
          exact .cons r1 g2
theorem put_dn {H : Hp} (hg : ∀ a b, eq (g a) (g b) = decide (a = b)) {k : κ} {v : V} {d : D} (hv : Dn K H v d) {es : List (D × D)} {kvs : List (κ × V)} (h : es.map (·.1) = kvs.map (fun p => g p.1)) (r : DnL K H (kvs.map (·.2)) (es.map (·.2))) :
    (putE eq es (g k) d).map (·.1) = (putK kvs k v).map (fun p => g p.1) ∧ DnL K H ((putK kvs k v).map (·.2)) ((putE eq es (g k) d).map (·.2)) := by
  unfold putE putK
  rw [any_keys hg k h]
  cases kvs.any fun kv => decide (kv.1 = k) with
  | true =>
    rw [if_pos rfl, if_pos rfl]
    exact map_keys hg k hv h r
  | false =>
    rw [if_neg Bool.false_ne_true, if_neg Bool.false_ne_true]
    refine ⟨?_, ?_⟩
    · rw [List.map_append, List.map_append, h]; rfl
    · rw [List.map_append, List.map_append]
      exact r.append (.cons hv .nil)
end
/-- d[k] = v -/
def putD (t : Nat) (es : List (D × D)) (k v : D) : Option (List (D × D)) := match t with
  | 0 => (keyD k).bind fun _ => if Nat.blt es.length 16777216 then some (putE eqK es k v) else none
  | 1 => match k with
    | .tup ks => (keysD ks).bind fun _ => if Nat.blt es.length 16777216 then some (putE eqKT es k v) else none
    | _ => none
  | _ => none
theorem putD_inv0 {es es' : List (D × D)} {k v : D} (h : putD 0 es k v = some es') : ∃ kk, k = kD kk ∧ Nat.blt es.length 16777216 = true ∧ es' = putE eqK es k v := by
  unfold putD at h
  cases e4 : keyD k with
  | none => rw [e4] at h; cases h
  | some kk =>
    rw [e4, Option.bind_some] at h
    obtain ⟨hl, e⟩ := if_some h
    exact ⟨kk, keyD_inv e4, hl, e.symm⟩
theorem putD_inv1 {es es' : List (D × D)} {k v : D} (h : putD 1 es k v = some es') : ∃ ks : List Key, k = .tup (ks.map kD) ∧ Nat.blt es.length 16777216 = true ∧ es' = putE eqKT es k v := by
  cases k with
  | tup ds =>
    have h : ((keysD ds).bind fun _ => if Nat.blt es.length 16777216 then some (putE eqKT es (.tup ds) v) else none) = some es' := h
    cases e4 : keysD ds with
    | none => rw [e4] at h; cases h
    | some kk =>
      rw [e4, Option.bind_some] at h
      obtain ⟨hl, e⟩ := if_some h
      exact ⟨kk, by rw [keysD_inv e4], hl, e.symm⟩
  | _ => cases h
def sDPut (i : Nat) (f g : XS) : SS := fun env io => (f env io).bind fun a => (g env a.2).bind fun b => match env[i]? with
  | some (some (.dic t es)) => (putD t es b.1 a.1).map fun es' => (.nx, env.set i (some (.dic t es')), b.2)
  | _ => none
theorem map_len {α β γ : Type} {f : α → γ} {g : β → γ} {as : List α} {bs : List β} (h : as.map f = bs.map g) : as.length = bs.length := by
  have := congrArg List.length h
  rw [List.length_map, List.length_map] at this
  exact this
section
variable {i : Nat} {x : Str} {e ix : Expr} {f g : XS} {pos p1 p2 : Pos}
theorem s_dput (I : In P w0 K mg base k X N sc φ) (hi : N[i]? = some x) (hv : Vis sc x) (he : SimX X s e f) (hx : SimX X s ix g) (ho : s.O.contains i = true := by rfl)
    (hs : swapsWith e (some (.Subscript (.Name x p1) ix p2)) pos.line X.env = pure false := by rfl) (hd : NotD x := by decide) (hcd : NotC x := by decide) : SimS X s s sl (.Assign [.Subscript (.Name x p1) ix p2] e pos) (sDPut i f g) := by
  refine PS_mono (ps_dput (by have := I.room.units; omega) (pe_slot I hi hv hd hcd) hx he hs) fun Z σ H h => ?_
  obtain ⟨T, H0, w, env, iod, fl, env', iod', R, e, q⟩ := h
  unfold PL.sDPut at e
  cases e1 : f env iod with
  | none => rw [e1] at e; cases e
  | some a =>
    rw [e1, Option.bind_some] at e
    cases e2 : g env a.2 with
    | none => rw [e2] at e; cases e
    | some b =>
      rw [e2, Option.bind_some] at e
      obtain ⟨p, hp, hσ, d, h2, h3⟩ := R.ownAt (List.contains_iff_mem.mp ho)
      rw [h2] at e
      cases d with
      | dic t es =>
        have e : (putD t es b.1 a.1).map (fun es' => (Fl.nx, env.set i (some (.dic t es')), b.2)) = some (fl, env', iod') := e
        cases e3 : putD t es b.1 a.1 with
        | none => rw [e3] at e; cases e
        | some es' =>
          rw [e3] at e
          cases e
          refine ⟨T, H0, w, env, iod, a.1, a.2, R, e1, fun v H1 P1 d1 => ?_⟩
          obtain ⟨hσ1, _⟩ := P1.1.own i p hp
          refine ⟨.ref p, hσ1, T, H0, w, env, a.2, b.1, b.2, P1.1, e2, fun y H2 P2 d2 => ?_⟩
          obtain ⟨h4, d', h5, h6⟩ := P2.1.own i p hp
          rw [h2] at h5
          cases h5
          have hpS : p ∈ w.S T := Ow.mem_A hp
          have fin : ∀ {o : HO}, Own X.K (cut (w.S T) H2) (upd H2 p o) p (.dic t es') → Z.nx σ (upd H2 p o) := fun {o} ow => by
            obtain ⟨R2, cs⟩ := P2.1.ownSet (H' := upd H2 p o) (d := .dic t es') hp (fun b o hb e => by rw [upd_ne hb]; exact e) (by rw [cut_upd_in hpS]; exact ow)
            exact q w σ _ (.inr rfl) ((P1.2.trans P2.2).trans cs) R2
          cases h6 with
          | dk hk hz hr =>
            obtain ⟨kk, ek, hl, ee⟩ := putD_inv0 e3
            subst ee
            rw [ek] at d2 fin
            have ey := kV_dn d2
            subst ey
            obtain ⟨z1, z2⟩ := put_dn (K := X.K) (k := kk) eqK_kD (d1.mono P2.2) hz hr
            exact ⟨p, _, rfl, .k hk (by rw [← map_len hz]; exact blt_line hl), fin (.dk upd_same z1 z2)⟩
          | dt hk hz hr =>
            obtain ⟨ks, ek, hl, ee⟩ := putD_inv1 e3
            subst ee
            rw [ek] at d2 fin
            cases d2 with
            | tup ht hr2 =>
              have ey := kVs_dn hr2
              subst ey
              obtain ⟨z1, z2⟩ := put_dn (K := X.K) (g := fun l : List Key => D.tup (l.map kD)) (eq := eqKT) (k := ks) eqKT_kD (d1.mono P2.2) hz hr
              exact ⟨p, _, rfl, .t hk (cut_some ht).2 (by rw [← map_len hz]; exact blt_line hl), fin (.dt upd_same z1 z2)⟩
      | _ => cases e
end

/-! ### dict([..]) of pairs; len of a dict -/
def mergeE (es : List (D × D)) (more : List (D × D)) : List (D × D) := more.foldl (fun acc e => putE eqK acc e.1 e.2) es
def pairsD : List D → Option (List (D × D))
  | [] => some []
  | .tup [a, b] :: r => (keyD a).bind fun _ => (pairsD r).map fun es => (a, b) :: es
  | _ => none
def dictD : D → Option D
  | .lst ds => (pairsD ds).map fun es => .dic 0 (mergeE [] es)
  | _ => none
end PL

/-! PL15: dict of pairs, len of a dict, sorted of a dict, len of a set, any. -/
namespace PL
open PySem PySem.Spec PyProof.Rows L2
variable {X : Cx} {s s' s2 sl : Sh} {N : List Str} {sc : Scope} {φ : Str → Bool} {P : Program} {w0 : World} {K : PySem.W.Frag} {mg : Str → Option Value} {base : Heap} {k : Nat}

/-! ### dict([..]) -/
theorem paired_of {S : List Addr} {H : Hp} : ∀ {ds : List D} {es : List (D × D)} {xs : List V}, pairsD ds = some es → DnL K (cut S H) xs ds →
    ∃ (ps : List Addr) (kvs : List (Key × V)), xs = ps.map V.ref ∧ Paired (fun p kv => SqT K H p [kV kv.1, kv.2]) ps kvs ∧ es.map (·.1) = kvs.map (fun p => kD p.1) ∧ DnL K (cut S H) (kvs.map (·.2)) (es.map (·.2))
  | [], _, _, e, r => by cases e; cases r; exact ⟨[], [], rfl, .nil, rfl, .nil⟩
  | d :: ds, es, _, e, r => by
    cases r with
    | cons h r =>
      unfold pairsD at e
      split at e
      · rename_i heq; cases heq
      · rename_i a b r' heq
        cases heq
        cases e1 : keyD a with
        | none => rw [e1] at e; cases e
        | some kk =>
          rw [e1, Option.bind_some] at e
          cases e2 : pairsD ds with
          | none => rw [e2] at e; cases e
          | some es' =>
            rw [e2] at e
            cases e
            obtain ⟨ps, kvs, rfl, h2, h3, h4⟩ := paired_of e2 r
            cases h with
            | tup ht hr =>
              cases hr with
              | cons ha hr =>
                cases hr with
                | cons hb hr =>
                  cases hr
                  rename_i va vb
                  rw [keyD_inv e1] at ha
                  have ea := kV_dn ha
                  subst ea
                  refine ⟨_ :: ps, (kk, vb) :: kvs, rfl, .cons (seqTc ht) h2, ?_, .cons hb h4⟩
                  rw [List.map_cons, List.map_cons, h3, keyD_inv e1]
      · cases e
theorem merge_dn {H : Hp} : ∀ {more es : List (D × D)} {mkvs kvs : List (Key × V)}, more.map (·.1) = mkvs.map (fun p => kD p.1) → DnL K H (mkvs.map (·.2)) (more.map (·.2)) → es.map (·.1) = kvs.map (fun p => kD p.1) → DnL K H (kvs.map (·.2)) (es.map (·.2)) →
    (mergeE es more).map (·.1) = (mergeK kvs mkvs).map (fun p => kD p.1) ∧ DnL K H ((mergeK kvs mkvs).map (·.2)) ((mergeE es more).map (·.2))
  | [], es, [], kvs, _, _, h, r => ⟨h, r⟩
  | [], _, _ :: _, _, h, _, _, _ => by cases h
  | _ :: _, _, [], _, h, _, _, _ => by cases h
  | e :: more, es, p :: mkvs, kvs, h, r, h2, r2 => by
    rw [List.map_cons, List.map_cons] at h
    obtain ⟨h3, h4⟩ := List.cons.inj h
    rw [List.map_cons, List.map_cons] at r
    cases r with
    | cons r3 r4 =>
      obtain ⟨z1, z2⟩ := put_dn (g := kD) (eq := eqK) (k := p.1) eqK_kD r3 h2 r2
      have h3 : e.1 = kD p.1 := h3
      rw [← h3] at z1 z2
      exact merge_dn (es := putE eqK es e.1 e.2) (kvs := putK kvs p.1 p.2) h4 r4 z1 z2
theorem c_dict : CNew K (op1 dictD) (fun xs H Q => ∃ (a : Addr) (ps : List Addr) (kvs : List (Key × V)), xs = [.ref a] ∧ SqL K H a (ps.map V.ref) ∧ Paired (fun p kv => SqT K H p [kV kv.1, kv.2]) ps kvs ∧
    ∀ p, H p = none → Q (.ref p) (upd H p (.dK (mergeK [] kvs)))) := by
  intro S H xs ds c Q hf h e q
  obtain ⟨d, rfl, e2⟩ := op1_inv e
  replace e := e2
  clear e2
  obtain ⟨v, rfl, hd⟩ := dnl_one h
  clear h
  unfold dictD at e
  split at e
  · rename_i ds
    cases e1 : pairsD ds with
    | none => rw [e1] at e; cases e
    | some es =>
      rw [e1] at e
      cases e
      cases hd with
      | lst h r =>
        obtain ⟨ps, kvs, rfl, h2, h3, h4⟩ := paired_of e1 r
        obtain ⟨z1, z2⟩ := merge_dn (es := []) (kvs := []) h3 h4 rfl .nil
        exact ⟨_, ps, kvs, rfl, .inl (.inl (cut_some h).2), h2, fun p hp => q p _ (same_new hp) hp (.dk upd_same z1 (z2.mono (cut_cons (same_new hp) hp)))⟩
  · cases e

/-! ### len of a dict -/
theorem CallR.or {c : Value} {r r' : List V → Hp → VK → Prop} (h : CallR X c r) (h' : CallR X c r') : CallR X c (fun xs H Q => r xs H Q ∨ r' xs H Q) := by
  intro pins st σ H xs us Q I rv q
  rcases q with q | q
  · exact h pins st σ H xs us Q I rv q
  · exact h' pins st σ H xs us Q I rv q
def lenDk : D → Option D
  | .dic 0 es => some (.int es.length)
  | _ => none
theorem c_lenDk : COk K (op1 lenDk) (fun xs H Q => ∃ a kvs, xs = [V.ref a] ∧ H a = some (.dK kvs) ∧ Q (.int kvs.length) H) := by
  intro S H xs ds c Q hf h e q
  obtain ⟨d, rfl, e2⟩ := op1_inv e
  replace e := e2
  clear e2
  obtain ⟨v, rfl, hd⟩ := dnl_one h
  clear h
  unfold lenDk at e
  split at e
  · cases e
    cases hd with
    | dk h hz r => exact ⟨_, _, rfl, (cut_some h).2, by rw [← map_len hz]; exact q _ H (Same.refl _) (.int _)⟩
  · cases e

/-! ### sorted of a dict whose keys are tuples -/
def pyK : Key → PyData
  | .inl i => .int i
  | .inr x => .str x
def pyKT (ks : List Key) : PyData := .tuple (ks.map pyK)
def rSrtD : List V → Hp → VK → Prop := fun vs H Q => ∃ (a : Addr) (kvs : List (List Key × V)), vs = [.ref a] ∧ H a = some (.dT kvs) ∧ sortOk (kvs.map fun p => pyKT p.1) = true ∧
  ∀ (bs : List Addr) p, Paired (fun (b : Addr) (ks : List Key) => H b = some (.tup (ks.map kV))) bs (kvs.map (·.1)) → H p = none → Q (.ref p) (upd H p (.lst ((isort dle ((bs.map V.ref).zip (kvs.map fun p => pyKT p.1))).map (·.1))))
theorem kV_dp {H : Hp} (k : Key) : Dp K H (kV k) (pyK k) := by
  cases k with
  | inl i => exact .int i
  | inr x => exact .str x
theorem kVs_dp {H : Hp} : ∀ ks : List Key, DpAll K H (ks.map kV) (ks.map pyK)
  | [] => .nil
  | k :: ks => .cons (kV_dp k) (kVs_dp ks)
theorem kt_split {H : Hp} : ∀ {kvs : List (List Key × V)} {xs : List (List Key × Addr × Value)}, KT H kvs xs → Paired (fun (b : Addr) (ks : List Key) => H b = some (.tup (ks.map kV))) (xs.map fun x => x.2.1) (kvs.map (·.1))
  | _, _, .nil => .nil
  | _, _, .cons h r => .cons h.2.1 (kt_split r)
theorem each_refs : ∀ {bs : List Addr} {ys : List PyData} {st : Shared} {H : Hp} {σ : L2.St} {pins : List (Addr × Obj)}, Inv X pins σ H st → DpAll X.K H (bs.map V.ref) ys →
    PySem.W.EachIs (fun v (b : V × PyData) => RelV b.1 v ∧ ∃ as, Reads st.heap v b.2 as) (bs.map Value.ref) ((bs.map V.ref).zip ys)
  | [], _, _, _, _, _, _, h => by cases h; exact .nil
  | b :: bs, _, _, _, _, _, I, h => by
    rw [List.map_cons] at h
    cases h with
    | cons h r => exact .cons ⟨rfl, Dp.reads I _ _ (.ref b) h rfl⟩ (each_refs I r)
theorem EachIs.imp {α β : Type} {R R' : α → β → Prop} : ∀ {as : List α} {bs : List β}, PySem.W.EachIs R as bs → (∀ a b, R a b → R' a b) → PySem.W.EachIs R' as bs
  | _, _, .nil, _ => .nil
  | _, _, .cons h t, m => .cons (m _ _ h) (EachIs.imp t m)
theorem paired_dp {H : Hp} : ∀ {bs : List Addr} {kss : List (List Key)}, Paired (fun (b : Addr) (ks : List Key) => H b = some (.tup (ks.map kV))) bs kss → DpAll K H (bs.map V.ref) (kss.map pyKT)
  | _, _, .nil => .nil
  | _, _, .cons h r => .cons (.tup (.inl (.inl h)) (kVs_dp _)) (paired_dp r)
theorem paired_len {α β : Type} {R : α → β → Prop} : ∀ {as : List α} {bs : List β}, Paired R as bs → as.length = bs.length
  | _, _, .nil => rfl
  | _, _, .cons _ r => by rw [List.length_cons, List.length_cons, paired_len r]

theorem refs_acc {es : Array DictEntry} {xs : List (List Key × Addr × Value)} {knd : HeapKind X.prog X.w (List Key)} (he : es.toList = xs.map (entryOfKey knd)) {acc : Array Value} (hacc : ItemsOf (fun i v => ∃ hi : i < es.size, v = es[i].key) acc es.size) : acc.toList = (xs.map fun x => x.2.1).map Value.ref := by
  have hsz : es.size = xs.length := by rw [← Array.length_toList, he, List.length_map]
  apply List.ext_getElem?
  intro j
  rw [List.getElem?_map, List.getElem?_map]
  by_cases hj : j < xs.length
  · have h1 : j < acc.size := by rw [hacc.1, hsz]; exact hj
    obtain ⟨hi, e⟩ := hacc.2 j acc[j] (Array.getElem?_eq_getElem h1)
    rw [Array.getElem?_toList, Array.getElem?_eq_getElem h1, e, List.getElem?_eq_getElem hj]
    have e2 : es.toList[j]? = (xs.map (entryOfKey knd))[j]? := by rw [he]
    rw [Array.getElem?_toList, Array.getElem?_eq_getElem hi, List.getElem?_map, List.getElem?_eq_getElem hj] at e2
    have e3 : es[j] = entryOfKey knd xs[j] := Option.some.inj e2
    rw [e3]
    rfl
  · rw [List.getElem?_eq_none (by rw [Array.length_toList, hacc.1, hsz]; omega), List.getElem?_eq_none (by omega)]
    rfl
theorem cr_srtD (hcalm : X.calm = true) (hu : X.A.units + 64 < cLine) : CallR X (.builtin "sorted") rSrtD := by
  intro pins s σ H vs us Q I r q
  obtain ⟨a, kvs, rfl, hd, hok, q⟩ := q
  obtain ⟨u, eu, rx⟩ := vals1 r
  subst eu
  cases rx
  obtain ⟨z, lo, xs, rel, dd⟩ := dt_rd I.hok (.inl hd)
  obtain ⟨o, es, ep, ho, hx, hdat, hes, hall, hnd⟩ := dd
  have hsz : es.size = xs.length := by rw [← Array.length_toList, hes, List.length_map]
  have hxl : xs.length = kvs.length := by
    have h1 := paired_len (kt_split rel)
    rw [List.length_map, List.length_map] at h1
    exact h1
  have h16 : es.size ≤ sizeLine := by rw [hsz, hxl]; exact z
  refine Calls.call_function_entry PyProof.Rows.kind_sorted PyProof.Rows.plain_sorted PyProof.Rows.entry_sorted (PyProof.Rows.args_sorted1 _) ?_
  unfold Builtin.«sorted»
  refine wpAny_bind (m := checkCount "sorted" 1 1 _) (wpAny_pure ?_)
  refine wpAny_bind (PySem.W.kdu_collect (A := X.A.in1) (KdlSrc.rawDict lo) (I.ok.hd hcalm) (show s.heap.DictRaw a es ep from ⟨o, ho, hx, hdat⟩) h16 fun h' tk acc hk hacc => ?_)
  have eacc := refs_acc hes hacc
  have I1 : Inv X pins σ H { s with heap := h', toks := tk } := I.kept hk
  have hal : acc.toList.length = kvs.length := by rw [eacc, List.length_map, List.length_map, hxl]
  obtain ⟨h1, h2, h3⟩ := sortOk_inv hok
  refine wpAny_bind (wpAny_newList ?_ (by rw [hal]; exact z))
  have hoL : (h'.push (seqObj "list" acc.toList.toArray 0)).get? h'.objs.size = some (seqObj "list" acc.toList.toArray 0) := Heap.get?_push_size _ rfl
  show wpAny _ _ _ _ _ { s with heap := h'.push (seqObj "list" acc.toList.toArray 0), toks := tk }
  let bs : List (V × PyData) := ((xs.map fun x => x.2.1).map V.ref).zip (kvs.map fun p => pyKT p.1)
  have hdp : DpAll X.K H ((xs.map fun x => x.2.1).map V.ref) (kvs.map fun p => pyKT p.1) := by
    have h4 := paired_dp (K := X.K) (kt_split rel)
    have e4 : (kvs.map (·.1)).map pyKT = kvs.map fun p => pyKT p.1 := by rw [List.map_map]; rfl
    rw [e4] at h4
    exact h4
  have emap : bs.map Prod.snd = kvs.map fun p => pyKT p.1 := by
    show List.map Prod.snd (List.zip _ _) = _
    rw [List.map_snd_zip]
    rw [List.length_map, List.length_map, List.length_map]
    omega
  have hE := each_refs I1 hdp
  rw [← eacc] at hE
  have heE : PySem.W.EachIs (fun v (b : V × PyData) => RelV b.1 v) acc.toList bs := EachIs.imp hE fun _ _ h => h.1
  have her : PySem.W.EachIs (fun v (b : V × PyData) => ∃ as, Reads (PySem.W.sortingHeap (h'.push (seqObj "list" acc.toList.toArray 0)) h'.objs.size acc.toList) v b.2 as) acc.toList bs := EachIs.imp hE fun _ _ ⟨_, as, rd⟩ => ⟨as, PyProof.Rows.Reads.keeps (fun b o e => PySem.W.sortingHeap_old (Nat.ne_of_lt (Heap.lt_size e)) (Heap.get?_push_of_some _ e)) rd⟩
  have hblen : bs.length = kvs.length := by
    show (List.zip _ _).length = _
    rw [List.length_zip, List.length_map, List.length_map, List.length_map]
    omega
  refine wpAny_bind (wpAny_holding (wpAny_call_entry PyProof.Rows.slot_list_sort ⟨_, hoL, rfl⟩ PyProof.Rows.entry_list_sort
    (PySem.W.list_sort_vals (κ := PySem.W.dataKind (PySem.W.sortingHeap (h'.push (seqObj "list" acc.toList.toArray 0)) h'.objs.size acc.toList) (bs.map Prod.snd)) (s := { s with heap := h'.push (seqObj "list" acc.toList.toArray 0), toks := tk }) hoL
      (PySem.W.SortsAt.data (s := { s with heap := PySem.W.sortingHeap (h'.push (seqObj "list" acc.toList.toArray 0)) h'.objs.size acc.toList, toks := tk }) (PySem.W.each_map (R := fun v d => ∃ as, Reads (PySem.W.sortingHeap (h'.push (seqObj "list" acc.toList.toArray 0)) h'.objs.size acc.toList) v d as) Prod.snd her) (by rw [emap]; exact h1) (by rw [emap]; exact h2) (PySem.W.bound_map fun b hb => ?_))
      (by rw [hal]; exact z) ⟨_, rfl, ?_⟩)
    (PyProof.Rows.args_list_sort _)))
  · have hb2 : b.2 ∈ kvs.map fun p => pyKT p.1 := by rw [← emap]; exact List.mem_map.mpr ⟨b, hb, rfl⟩
    have := h3 _ hb2
    show X.A.units + 1 + 1 + b.2.depth < cLine
    omega
  · have hsv := PySem.W.sortVals_data false heE her (by rw [emap]; exact h1)
    rw [← dle_eq, isort_eq dle_total] at hsv
    have hv := each_vals hsv
    obtain ⟨e', he'⟩ := PyProof.Rows.sortedHeap_at (vs := acc.toList) (out := (PySem.W.sortVals (PySem.W.dataKind (PySem.W.sortingHeap (h'.push (seqObj "list" acc.toList.toArray 0)) h'.objs.size acc.toList) (bs.map Prod.snd)) false acc.toList acc.toList).toArray) hoL
    have hlen : ((isort dle bs).map (·.1)).length ≤ sizeLine := by
      rw [List.length_map, (isort_perm _).length_eq, hblen]
      exact z
    refine wpAny_pure ⟨_, rfl, .ref h'.objs.size, upd H h'.objs.size (.lst ((isort dle bs).map (·.1))), I1.laid (t' := tk) (fun b u e => ?_) (Nat.le_refl _)
      (show ObjOk X.prog X.w _ _ _ (.lst ((isort dle bs).map (·.1))) from ⟨hlen, _, e', hv, he'⟩), rfl, q _ _ (kt_split rel) (I1.hok.fresh (Nat.le_refl _))⟩
    have hb : b < h'.objs.size := Heap.lt_size e
    rw [PyProof.Rows.sortedHeap_old (Nat.ne_of_lt hb) (by rw [size_push']; exact Nat.lt_succ_of_lt hb)]
    exact Heap.get?_push_of_some _ e
end PL

/-! PL16: sorted(d), len(set(xs)), any of ints; rules by name for the built-ins. -/
namespace PL
open PySem PySem.Spec PyProof.Rows L2
variable {X : Cx} {s s' s2 sl : Sh} {N : List Str} {sc : Scope} {φ : Str → Bool} {P : Program} {w0 : World} {K : PySem.W.Frag} {mg : Str → Option Value} {base : Heap} {k : Nat}

def sortedDk : D → Option D
  | .dic 1 es => (sortL (es.map (·.1))).map .lst
  | _ => none
theorem toPy_kD (k : Key) : toPy (kD k) = some (pyK k) := by
  cases k <;> simp [kD, pyK, toPy]
theorem toPyL_kD : ∀ ks : List Key, toPyL (ks.map kD) = some (ks.map pyK)
  | [] => by simp [toPyL]
  | k :: ks => by rw [List.map_cons, List.map_cons, toPyL, toPy_kD, toPyL_kD ks]; rfl
theorem toPyL_kT : ∀ kss : List (List Key), toPyL (kss.map fun ks => D.tup (ks.map kD)) = some (kss.map pyKT)
  | [] => by simp [toPyL]
  | ks :: kss => by
    rw [List.map_cons, List.map_cons, toPyL, toPy, toPyL_kD, toPyL_kT kss]
    rfl
theorem dn_keys {S : List Addr} {H : Hp} (hf : Fr S H) : ∀ {bs : List Addr} {kss : List (List Key)}, Paired (fun (b : Addr) (ks : List Key) => H b = some (.tup (ks.map kV))) bs kss → DnL K (cut S H) (bs.map V.ref) (kss.map fun ks => D.tup (ks.map kD))
  | _, _, .nil => .nil
  | _, _, .cons h r => .cons (.tup ((cut_out (hf.tup h)).trans h) (keys _)) (dn_keys hf r)
where keys : ∀ (ks : List Key), DnL K (cut S H) (ks.map kV) (ks.map kD)
  | [] => .nil
  | .inl i :: ks => .cons (.int i) (keys ks)
  | .inr x :: ks => .cons (.str x) (keys ks)
theorem c_srtD : COk K (op1 sortedDk) rSrtD := by
  intro S H xs ds c Q hf h e q
  obtain ⟨d, rfl, e2⟩ := op1_inv e
  replace e := e2
  clear e2
  obtain ⟨v, rfl, hd⟩ := dnl_one h
  clear h
  unfold sortedDk at e
  split at e
  · rename_i es
    cases hd with
    | dt h hz hr =>
      rename_i a kvs
      have ek : es.map (·.1) = (kvs.map (·.1)).map fun ks => D.tup (ks.map kD) := by rw [hz, List.map_map]; rfl
      unfold sortL at e
      rw [ek, toPyL_kT, Option.bind_some] at e
      have ey : (kvs.map (·.1)).map pyKT = kvs.map fun p => pyKT p.1 := by rw [List.map_map]; rfl
      rw [ey] at e
      cases hk : sortOk (kvs.map fun p => pyKT p.1) with
      | false => rw [hk] at e; cases e
      | true =>
        rw [hk] at e
        cases e
        refine ⟨a, kvs, rfl, (cut_some h).2, hk, fun bs p hb hp => ?_⟩
        obtain ⟨g, dn⟩ := lay_lst hf hp (isort_zip (ys := kvs.map fun p => pyKT p.1) (dn_keys (K := K) hf hb) (by rw [List.length_map, List.length_map, List.length_map])).2
        exact q _ _ g dn
  · cases e

/-! ### len(set(xs)), xs a list of ints that differ -/
def ndI : List Int → Bool
  | [] => true
  | n :: ns => !(ns.any fun m => decide (m = n)) && ndI ns
theorem ndI_ok : ∀ {ns : List Int}, ndI ns = true → ns.Nodup
  | [], _ => List.nodup_nil
  | n :: ns, h => by
    unfold ndI at h
    rw [Bool.and_eq_true] at h
    refine List.nodup_cons.mpr ⟨fun z => ?_, ndI_ok h.2⟩
    have h1 := h.1
    rw [List.any_eq_true.mpr ⟨n, z, decide_eq_true rfl⟩] at h1
    cases h1
def lenSetD : D → Option D
  | .lst ds => (intsD ds).bind fun ns => if ndI ns && Nat.ble ns.length 4000 then some (.int ns.length) else none
  | _ => none
theorem x_lenSet {a : Expr} {f : XS} {p p2 q0 pos : Pos} (I : In P w0 K mg base k X N sc φ) (hg : GlN sc "len") (hm : mg "len" = none) (hg2 : GlN sc "set") (hm2 : mg "set" = none) (ha : SimX X s a f)
    (na : starEach [a] X.env = (false, eval a X.env) :: starEach [] X.env := by rfl) : SimX X s (.Call (.Name "len" p) [.Call (.Name "set" p2) [a] [] q0] [] pos) (x1 lenSetD f) :=
  PE_mono (RZ.pe_lenSetI (I.gl hg) (by rw [I.mg]; exact hm) (I.gl hg2) (by rw [I.mg]; exact hm2) ha I.calm na) fun σ H Q h => by
    obtain ⟨T, H0, w, env, iod, c, iod', R, e, q⟩ := h
    obtain ⟨d, e1, e3⟩ := x1_inv e
    refine ⟨T, H0, w, env, iod, d, iod', R, e1, fun x H1 P1 d1 => ?_⟩
    unfold lenSetD at e3
    split at e3
    · rename_i es
      cases e4 : intsD es with
      | none => rw [e4] at e3; cases e3
      | some ns =>
        rw [e4, Option.bind_some] at e3
        obtain ⟨hz, e3⟩ := if_some e3
        cases e3
        rw [Bool.and_eq_true] at hz
        cases d1 with
        | lst h r =>
          rw [intsD_dn e4 r] at h
          exact ⟨_, ns, rfl, .inl (.inl (cut_some h).2), ndI_ok hz.1, Nat.le_of_ble_eq_true hz.2, q _ H1 P1 (.int _)⟩
    · cases e3

/-! ### any of a tuple of ints -/
def rAnyIT (K : PySem.W.Frag) : List V → Hp → VK → Prop := fun vs H Q => ∃ (a : Addr) (ns : List Int), vs = [V.ref a] ∧ SqT K H a (ns.map V.int) ∧ Q (.bl (ns.any fun n => n != 0)) H
theorem anyI_range : ∀ ns : List Int, (List.range ns.length).any (fun i => ns.getD i 0 != 0) = ns.any fun n => n != 0
  | [] => rfl
  | n :: ns => by
    rw [List.length_cons, List.range_succ_eq_map, List.any_cons, List.any_map, List.any_cons, ← anyI_range ns]
    rfl
theorem truth_intsT {prog : Program} {w : World} {A : Around} {ns : List Int} {its : List Value} (r : Vals (ns.map V.int) its) :
    TruthOf prog w A (fun i v => its.toArray[i]? = some v) (fun i => ns.getD i 0 != 0) := fun i v s Q E hv hq => by
  have hv' : its[i]? = some v := by simpa using hv
  have hl := r.length
  rw [List.length_map] at hl
  have hi : i < ns.length := by rw [hl]; exact (List.getElem?_eq_some_iff.mp hv').1
  obtain ⟨u, hu, ru⟩ := r.get (i := i) (x := .int ns[i]) (by rw [List.getElem?_map, List.getElem?_eq_getElem hi]; rfl)
  rw [hv'] at hu
  cases hu
  obtain ⟨t, rfl⟩ := ru
  have e : ns.getD i 0 = ns[i] := by rw [List.getD_eq_getElem?_getD, List.getElem?_eq_getElem hi]; rfl
  have hq' : Q (ns.getD i 0 != 0) s := hq
  rw [e] at hq'
  exact PySem.P.truthy_int hq'
theorem cr_anyIT (hc : X.calm = true) : CallR X (.builtin "any") (rAnyIT X.K) := by
  intro pins s σ H vs us Q I r h
  obtain ⟨a, ns, rfl, hs, q⟩ := h
  obtain ⟨its, rv, hl, hz⟩ := I.tuple hs
  rw [Vals.ref1 r]
  have hl : s.heap.IsTuple a its.toArray := hl
  have hlt : a < s.heap.objs.size := by obtain ⟨_, e, _⟩ := hl; exact Heap.lt_size e
  have hne : a ≠ s.heap.objs.size := Nat.ne_of_lt hlt
  refine call_any_walk (wpAny_pyIter_tuple hl ?_)
  refine ⟨_, _, _, _, _, _, _, rfl, Walks.tuple (A := X.A.in1) (I.ok.hd hc) _ a hne its.toArray, ⟨⟨_, Heap.get?_push_size _ rfl, rfl, rfl⟩, hl.push _⟩, truth_intsT rv, fun h' tk hk => ?_⟩
  refine ⟨.bl _, H, I.kept fun b o eo => hk b o (fun hmem => ?_) (Heap.get?_push_of_some _ eo), ?_, q⟩
  · rcases List.mem_cons.mp hmem with e1 | hmem
    · exact absurd (e1 ▸ Heap.lt_size eo) (Nat.lt_irrefl _)
    · cases hmem
  · show Value.bool _ = Value.bool _
    have hln := rv.length
    rw [List.length_map] at hln
    rw [← anyI_range, List.size_toArray, hln]
def anyID : D → Option D
  | .tup xs => (intsD xs).map fun ns => .bl (ns.any fun n => n != 0)
  | _ => none
theorem c_anyI : COk K (op1 anyID) (rAnyIT K) := by
  intro S H xs ds c Q hf h e q
  obtain ⟨d, rfl, e2⟩ := op1_inv e
  replace e := e2
  clear e2
  obtain ⟨v, rfl, hd⟩ := dnl_one h
  clear h
  unfold anyID at e
  split at e
  · rename_i es
    cases e1 : intsD es with
    | none => rw [e1] at e; cases e
    | some ns =>
      rw [e1] at e
      cases e
      cases hd with
      | tup h r =>
        rw [intsD_dn e1 r] at h
        exact ⟨_, ns, rfl, seqTc h, q _ H (Same.refl _) (.bl _)⟩
  · cases e
end PL

/-! PL17: rules by the text's form, for printed derivations. -/
namespace PL
open PySem PySem.Spec PyProof.Rows L2
variable {X : Cx} {s s' s2 sl : Sh} {N : List Str} {sc : Scope} {φ : Str → Bool} {P : Program} {w0 : World} {K : PySem.W.Frag} {mg : Str → Option Value} {base : Heap} {k : Nat}

theorem OpR.or {op : Value → Value → Sem Value} {r r' : R2} (h : OpR X op r) (h' : OpR X op r') : OpR X op (fun x y H Q => r x y H Q ∨ r' x y H Q) := by
  intro pins st σ H x y v u Q I rx ry q
  rcases q with q | q
  · exact h pins st σ H x y v u Q I rx ry q
  · exact h' pins st σ H x y v u Q I rx ry q
def addA : D → D → Option D := fun a b => (addI a b).or ((fun a b => (addL a b).or (addT a b)) a b)
def mulA : D → D → Option D := fun a b => (mulI a b).or ((fun a b => (repL a b).or (repT a b)) a b)
section
variable {a b : Expr} {f g : XS} {pos : Pos}
theorem x_add (ha : SimX X s a f) (hb : SimX X s b g) : SimX X s (.BinOp a .Add b pos) (x2 addA f g) := x_bin (OpR.or op_add (OpR.or op_cat op_catA)) (R2Ok.or k_addI (R2Ok.or k_addL k_addT)) ha hb
theorem x_minus (ha : SimX X s a f) (hb : SimX X s b g) : SimX X s (.BinOp a .Sub b pos) (x2 subI f g) := x_bin op_sub k_subI ha hb
theorem x_times (ha : SimX X s a f) (hb : SimX X s b g) : SimX X s (.BinOp a .Mult b pos) (x2 mulA f g) := x_bin (OpR.or op_mul (OpR.or op_rep op_repT)) (R2Ok.or k_mulI (R2Ok.or k_repL k_repT)) ha hb
theorem x_fdiv (ha : SimX X s a f) (hb : SimX X s b g) : SimX X s (.BinOp a .FloorDiv b pos) (x2 fdivI f g) := x_bin op_fdiv k_fdivI ha hb
theorem x_mod (ha : SimX X s a f) (hb : SimX X s b g) : SimX X s (.BinOp a .Mod b pos) (x2 modI f g) := x_bin op_mod k_modI ha hb
theorem x_pow (ha : SimX X s a f) (hb : SimX X s b g) : SimX X s (.BinOp a .Pow b pos) (x2 powI f g) := x_bin op_pow k_powI ha hb
theorem n_add (ha : SimX X s a f) (hb : SimX X s b g) : SimN X s (.BinOp a .Add b pos) (x2 addL f g) := n_bin op_cat k_addLN ha hb
theorem n_times (ha : SimX X s a f) (hb : SimX X s b g) : SimN X s (.BinOp a .Mult b pos) (x2 repL f g) := n_bin op_rep k_repLN ha hb
theorem x_neg (ha : SimX X s a f) : SimX X s (.UnaryOp .USub a pos) (x1 negI f) := x_un un_neg k_negI ha
theorem In.units (I : In P w0 K mg base k X N sc φ) : X.A.units + 64 < cLine := I.room.units
theorem x_eq (I : In P w0 K mg base k X N sc φ) (ha : SimX X s a f) (hb : SimX X s b g) : SimX X s (.Compare a [.Eq] [b] pos) (x2 eqD f g) := x_cmp (op_eqD I.units) k_eqD ha hb (nomark _)
theorem x_ne (I : In P w0 K mg base k X N sc φ) (ha : SimX X s a f) (hb : SimX X s b g) : SimX X s (.Compare a [.NotEq] [b] pos) (x2 neD f g) := x_cmp (op_neD I.units) k_neD ha hb (nomark _)
theorem x_lt (ha : SimX X s a f) (hb : SimX X s b g) : SimX X s (.Compare a [.Lt] [b] pos) (x2 ltI f g) := x_cmp op_lt k_ltI ha hb (nomark _)
theorem x_le (ha : SimX X s a f) (hb : SimX X s b g) : SimX X s (.Compare a [.LtE] [b] pos) (x2 leI f g) := x_cmp op_le k_leI ha hb (nomark _)
theorem x_gt (ha : SimX X s a f) (hb : SimX X s b g) : SimX X s (.Compare a [.Gt] [b] pos) (x2 gtI f g) := x_cmp op_gt k_gtI ha hb (nomark _)
theorem x_ge (ha : SimX X s a f) (hb : SimX X s b g) : SimX X s (.Compare a [.GtE] [b] pos) (x2 geI f g) := x_cmp op_ge k_geI ha hb (nomark _)
theorem x_in (ha : SimX X s a f) (hb : SimX X s b g) (hm : behindInMarks .In b = false := by rfl) : SimX X s (.Compare a [.In] [b] pos) (x2 inD f g) := x_cmp op_in_seq k_inD ha hb hm
theorem x_notIn (ha : SimX X s a f) (hb : SimX X s b g) (hm : behindInMarks .NotIn b = false := by rfl) : SimX X s (.Compare a [.NotIn] [b] pos) (x2 notInD f g) := x_cmp op_notIn_seq k_notInD ha hb hm
theorem b_eq (I : In P w0 K mg base k X N sc φ) (ha : SimX X s a f) (hb : SimX X s b g) : SimB X s (.Compare a [.Eq] [b] pos) (bX (x2 eqD f g)) := b_cmp (op_eqD I.units) k_eqD ha hb (nomark _)
theorem b_ne (I : In P w0 K mg base k X N sc φ) (ha : SimX X s a f) (hb : SimX X s b g) : SimB X s (.Compare a [.NotEq] [b] pos) (bX (x2 neD f g)) := b_cmp (op_neD I.units) k_neD ha hb (nomark _)
theorem b_lt (ha : SimX X s a f) (hb : SimX X s b g) : SimB X s (.Compare a [.Lt] [b] pos) (bX (x2 ltI f g)) := b_cmp op_lt k_ltI ha hb (nomark _)
theorem b_le (ha : SimX X s a f) (hb : SimX X s b g) : SimB X s (.Compare a [.LtE] [b] pos) (bX (x2 leI f g)) := b_cmp op_le k_leI ha hb (nomark _)
theorem b_gt (ha : SimX X s a f) (hb : SimX X s b g) : SimB X s (.Compare a [.Gt] [b] pos) (bX (x2 gtI f g)) := b_cmp op_gt k_gtI ha hb (nomark _)
theorem b_ge (ha : SimX X s a f) (hb : SimX X s b g) : SimB X s (.Compare a [.GtE] [b] pos) (bX (x2 geI f g)) := b_cmp op_ge k_geI ha hb (nomark _)
theorem b_in (ha : SimX X s a f) (hb : SimX X s b g) (hm : behindInMarks .In b = false := by rfl) : SimB X s (.Compare a [.In] [b] pos) (bX (x2 inD f g)) := b_cmp op_in_seq k_inD ha hb hm
theorem b_notIn (ha : SimX X s a f) (hb : SimX X s b g) (hm : behindInMarks .NotIn b = false := by rfl) : SimB X s (.Compare a [.NotIn] [b] pos) (bX (x2 notInD f g)) := b_cmp op_notIn_seq k_notInD ha hb hm
end

section
variable {o : CmpOp}
end

/-! ### built-ins by name -/
def lenA : List D → Option D := fun a => (op1 lenD a).or (op1 lenDk a)
def anyA : List D → Option D := fun a => (op1 anyD a).or (op1 anyID a)
def srtA : List D → Option D := fun a => (op1 sortedD a).or (op1 sortedDk a)
section
variable {e : Expr} {f : XLS} {p pos : Pos}
theorem x_len (I : In P w0 K mg base k X N sc φ) (hm : mg "len" = none) (ha : SimL X s [e] f) (hg : GlN sc "len" := by rfl) (he : MStar X e [] := by rfl) : SimX X s (.Call (.Name "len" p) [e] [] pos) (xCall lenA f) :=
  x_callB (CallR.or call_len call_lenD) (COk.or c_len c_lenDk) (I.gl hg) (by rw [I.mg]; exact hm) boot_len ha (by decide) (by decide) he rfl
theorem x_any (I : In P w0 K mg base k X N sc φ) (hm : mg "any" = none) (ha : SimL X s [e] f) (hg : GlN sc "any" := by rfl) (he : MStar X e [] := by rfl) : SimX X s (.Call (.Name "any" p) [e] [] pos) (xCall anyA f) :=
  x_callB (CallR.or (cr_any I.calm) (cr_anyIT I.calm)) (COk.or c_any c_anyI) (I.gl hg) (by rw [I.mg]; exact hm) (by decide +kernel) ha (by decide) (by decide) he rfl
theorem x_all (I : In P w0 K mg base k X N sc φ) (hm : mg "all" = none) (ha : SimL X s [e] f) (hg : GlN sc "all" := by rfl) (he : MStar X e [] := by rfl) : SimX X s (.Call (.Name "all" p) [e] [] pos) (xCall (op1 allD) f) :=
  x_callB (cr_all I.calm) c_all (I.gl hg) (by rw [I.mg]; exact hm) (by decide +kernel) ha (by decide) (by decide) he rfl
theorem x_sum (I : In P w0 K mg base k X N sc φ) (hm : mg "sum" = none) (ha : SimL X s [e] f) (hg : GlN sc "sum" := by rfl) (he : MStar X e [] := by rfl) : SimX X s (.Call (.Name "sum" p) [e] [] pos) (xCall (op1 sumD) f) :=
  x_callB (cr_sum I.calm) c_sum (I.gl hg) (by rw [I.mg]; exact hm) (by decide +kernel) ha (by decide) (by decide) he rfl
theorem x_min (I : In P w0 K mg base k X N sc φ) (hm : mg "min" = none) (ha : SimL X s [e] f) (hg : GlN sc "min" := by rfl) (he : MStar X e [] := by rfl) : SimX X s (.Call (.Name "min" p) [e] [] pos) (xCall (op1 minD) f) :=
  x_callB (cr_min I.calm) c_min (I.gl hg) (by rw [I.mg]; exact hm) (by decide +kernel) ha (by decide) (by decide) he rfl
theorem x_sorted (I : In P w0 K mg base k X N sc φ) (hm : mg "sorted" = none) (ha : SimL X s [e] f) (hg : GlN sc "sorted" := by rfl) (he : MStar X e [] := by rfl) : SimX X s (.Call (.Name "sorted" p) [e] [] pos) (xCall srtA f) :=
  x_callB (CallR.or (cr_srt I.units) (cr_srtD I.calm I.units)) (COk.or c_srt c_srtD) (I.gl hg) (by rw [I.mg]; exact hm) (by decide +kernel) ha (by decide) (by decide) he rfl
theorem x_abs (I : In P w0 K mg base k X N sc φ) (hm : mg "abs" = none) (ha : SimL X s [e] f) (hg : GlN sc "abs" := by rfl) (he : MStar X e [] := by rfl) : SimX X s (.Call (.Name "abs" p) [e] [] pos) (xCall (op1 absD) f) :=
  x_callB call_abs c_abs (I.gl hg) (by rw [I.mg]; exact hm) (by decide +kernel) ha (by decide) (by decide) he rfl
theorem x_toInt (I : In P w0 K mg base k X N sc φ) (hm : mg "int" = none) (ha : SimL X s [e] f) (hg : GlN sc "int" := by rfl) (he : MStar X e [] := by rfl) : SimX X s (.Call (.Name "int" p) [e] [] pos) (xCall (op1 intD) f) :=
  x_callT call_int1 c_int (I.gl hg) (by rw [I.mg]; exact hm) (by decide +kernel) ha (by decide) (by decide) he rfl
theorem x_toTup (I : In P w0 K mg base k X N sc φ) (hm : mg "tuple" = none) (ha : SimL X s [e] f) (hg : GlN sc "tuple" := by rfl) (he : MStar X e [] := by rfl) : SimX X s (.Call (.Name "tuple" p) [e] [] pos) (xCall (op1 tupleD) f) :=
  x_callT call_tuple_of c_tuple (I.gl hg) (by rw [I.mg]; exact hm) (by decide +kernel) ha (by decide) (by decide) he rfl
theorem n_toLst (I : In P w0 K mg base k X N sc φ) (hm : mg "list" = none) (ha : SimL X s [e] f) (hg : GlN sc "list" := by rfl) (he : MStar X e [] := by rfl) : SimN X s (.Call (.Name "list" p) [e] [] pos) (xCall (op1 listD) f) :=
  n_callT call_list_of c_list (I.gl hg) (by rw [I.mg]; exact hm) (by decide +kernel) ha (by decide) (by decide) he rfl
theorem n_toDict (I : In P w0 K mg base k X N sc φ) (hm : mg "dict" = none) (ha : SimL X s [e] f) (hg : GlN sc "dict" := by rfl) (he : MStar X e [] := by rfl) : SimN X s (.Call (.Name "dict" p) [e] [] pos) (xCall (op1 dictD) f) :=
  n_callT (call_dictP I.calm) c_dict (I.gl hg) (by rw [I.mg]; exact hm) (by decide +kernel) ha (by decide) (by decide) he rfl
end
/-- len(x), x owned -/
theorem x_lenO {i : Nat} {x : Str} {p p1 pos : Pos} (I : In P w0 K mg base k X N sc φ) (hm : mg "len" = none) (hi : N[i]? = some x) (hv : Vis sc x) (ho : s.O.contains i = true := by rfl) (hg : GlN sc "len" := by rfl) (hd : NotD x := by decide) (hcd : NotC x := by decide) (he : MStar X (.Name x p1) [] := by rfl) : SimX X s (.Call (.Name "len" p) [.Name x p1] [] pos) (xCO lenD i) :=
  x_ownB I hi hv call_len c_len hg hm boot_len ho hd hcd (by decide) (by decide) he rfl

/-! ### what is known of a def, by its name -/
def Kp (P : Program) (w : World) (K : PySem.W.Frag) (mg : Str → Option Value) (base : Heap) (k : Nat) (x : Str) (F : List D → Option D) : Prop := ∃ f fd ps, mg x = some (.ref f) ∧ OkP P w K mg base k f fd ps F
def Kn (P : Program) (w : World) (K : PySem.W.Frag) (mg : Str → Option Value) (base : Heap) (k : Nat) (x : Str) (F : List D → Option D) : Prop := ∃ f fd ps, mg x = some (.ref f) ∧ OkN P w K mg base k f fd ps F
def Ki (P : Program) (w : World) (K : PySem.W.Frag) (mg : Str → Option Value) (base : Heap) (k : Nat) (x : Str) (F : D → List D → Option (D × D)) : Prop := ∃ f fd ps, mg x = some (.ref f) ∧ OkI P w K mg base k f fd ps F
section
variable {j : Nat} {x y : Str} {p p' pos : Pos} {e : Expr} {es : List Expr} {g : XLS} {i : Nat}
theorem u_fn {F : List D → Option D} (I : In P w0 K mg base k X N sc φ) (G : Kp P w0 K mg base j x F) (ha : SimL X s (e :: es) g) (hj : Nat.ble j k = true := by rfl) (hg : GlN sc x := by rfl) (hdb : NotD x := by decide) (he : MStar X e es := by rfl)
    (hpl : MPlain X es pos := by rfl) : SimX X s (.Call (.Name x p) (e :: es) [] pos) (xCall F g) := by
  obtain ⟨f, fd, ps, hm, G⟩ := G
  exact c_fn I G hj hm hg ha hdb he hpl
theorem u_fnN {F : List D → Option D} (I : In P w0 K mg base k X N sc φ) (G : Kn P w0 K mg base j x F) (ha : SimL X s (e :: es) g) (hj : Nat.ble j k = true := by rfl) (hg : GlN sc x := by rfl) (hdb : NotD x := by decide) (he : MStar X e es := by rfl)
    (hpl : MPlain X es pos := by rfl) : SimN X s (.Call (.Name x p) (e :: es) [] pos) (xCall F g) := by
  obtain ⟨f, fd, ps, hm, G⟩ := G
  exact c_fnN I G hj hm hg ha hdb he hpl
theorem u_io {F : D → List D → Option (D × D)} (I : In P w0 K mg base k X N sc φ) (G : Ki P w0 K mg base j x F) (hi : s.J = some i) (hN : N[i]? = some y) (hv : Vis sc y) (ha : SimL X s es g) (hj : Nat.ble j k = true := by rfl) (hg : GlN sc x := by rfl) (hdb : NotD x := by decide) (hd2 : NotD y := by decide) (hcd : NotC y := by decide)
    (he : MStar X (.Name y p') es := by rfl) (hpl : MPlain X es pos := by rfl) : SimX X s (.Call (.Name x p) (.Name y p' :: es) [] pos) (xIo F g) := by
  obtain ⟨f, fd, ps, hm, G⟩ := G
  exact c_io I G hj hm hg hi hN hv ha hdb hd2 hcd he hpl
end
end PL

/-! PL18: small rules for printed derivations; makers of what is known. -/
namespace PL
open PySem PySem.Spec PyProof.Rows L2
variable {X : Cx} {s s' s2 sl : Sh} {N : List Str} {sc : Scope} {φ : Str → Bool} {P : Program} {w0 : World} {K : PySem.W.Frag} {mg : Str → Option Value} {base : Heap} {k : Nat}

def visb (sc : Scope) (x : Str) : Bool := match sc.names.lookup x with
  | some .local => true
  | some .cell => true
  | some .free => true
  | _ => false
def locb (sc : Scope) (x : Str) : Bool := match sc.names.lookup x with
  | some .local => true
  | some .cell => true
  | _ => false
theorem vis_by {x : Str} (h : visb sc x = true) : Vis sc x := by
  unfold visb at h
  unfold Vis
  split at h
  · rename_i e; exact .inl e
  · rename_i e; exact .inr (.inl e)
  · rename_i e; exact .inr (.inr e)
  · cases h
theorem loc_by {x : Str} (h : locb sc x = true) : L2.Loc sc x := by
  unfold locb at h
  unfold L2.Loc
  split at h
  · rename_i e; exact .inl e
  · rename_i e; exact .inr e
  · cases h
theorem not_in {i : Nat} (h : s.O.contains i = false) : i ∉ s.O := fun z => by
  rw [List.contains_iff_mem.mpr z] at h; cases h
theorem v {x : Str} {pos : Pos} (i : Nat) (I : In P w0 K mg base k X N sc φ) (hN : N[i]? = some x := by rfl) (hv : visb sc x = true := by rfl) (hi : s.O.contains i = false := by rfl) (hd : NotD x := by decide) (hcd : NotC x := by decide) : SimX X s (.Name x pos) (xVar i) :=
  x_var I hN (vis_by hv) (not_in hi) hd hcd
/-- a module's constant -/
def Kc (K : PySem.W.Frag) (mg : Str → Option Value) (x : Str) (d : D) : Prop := ∃ u v, mg x = some u ∧ RelV v u ∧ ∀ H, Dn K H v d
theorem x_const {x : Str} {d : D} {pos : Pos} (I : In P w0 K mg base k X N sc φ) (c : Kc K mg x d) (hg : GlN sc x := by rfl) (hdb : NotD x := by decide) : SimX X s (.Name x pos) (xC d) := by
  obtain ⟨u, v, hm, r, hd⟩ := c
  exact x_glob (I.gl hg) (by rw [I.mg]; exact hm) r (by rw [I.K]; exact hd) hdb
section
variable {x : Str} {st : Stmt} {f : Addr} {fd : FuncData} {M ps : List Str} {g : SS} {w : World} {scope : Scope} {params : Arguments} {body : List Stmt} {pos : Pos} {r : XS} {e : Expr}
theorem kp_of (F : FunD K x x params body scope [] [] f fd) (hm : mg x = some (.ref f)) (S : FnScope M ps scope) (bi : L2.Binds K fd ps []) (h : ∀ X, In P w K mg base k X M scope (fun _ => true) → SimSs X s0 s0 s0 body g) : Kp P w K mg base (k + 1) x (fnP ps.length M.length g) :=
  ⟨f, fd, ps, hm, okP F S bi h⟩
theorem ki_of (F : FunD K x x params body scope [] [] f fd) (hm : mg x = some (.ref f)) (S : FnScope M ps scope) (bi : L2.Binds K fd ps []) (h : ∀ X, In P w K mg base k X M scope (fun _ => true) → SimSs X sI sI sI body g) : Ki P w K mg base (k + 1) x (fnI ps.length M.length g) :=
  ⟨f, fd, ps, hm, okI F S bi h⟩
theorem kn_of {st : Stmt} (F : FunD K x x params body scope [] [] f fd) (hb : body = [st, .Return (some e) pos]) (hm : mg x = some (.ref f)) (S : FnScope M ps scope) (bi : L2.Binds K fd ps []) (h : ∀ X, In P w K mg base k X M scope (fun _ => true) → SimS X s0 s0 s0 st g) (h2 : ∀ X, In P w K mg base k X M scope (fun _ => true) → SimN X s0 e r) : Kn P w K mg base (k + 1) x (fnN ps.length M.length g r) := by
  subst hb
  exact ⟨f, fd, ps, hm, okN F S bi h h2⟩
end
theorem env_sc (I : In P w0 K mg base k X N sc φ) : X.env = { X.env with scope := sc } := by
  have h := I.hs
  generalize X.env = e at h
  cases e
  simp only at h
  subst h
  rfl
theorem sw_cell {elt : Expr} {gs : List Comprehension} {scope : Scope} {pos py : Pos} {y : Str} {l : Nat} {env : PySem.Env} (hy : (env.scope.names.lookup y == some .local) = false) : swapsWith (.ListComp elt gs scope pos) (some (.Name y py)) l env = pure false := by
  have ky : (env.kindOf y == some .local) = false := hy
  unfold swapsWith
  simp only [ky, Bool.and_false, Bool.false_and]
/-- name = [..], a name that the comprehension's parts see: no swap -/
theorem s_setCell {i : Nat} {x : Str} {elt : Expr} {gs : List Comprehension} {scope : Scope} {p : Pos} {f : XS} {pos pos' : Pos} (I : In P w0 K mg base k X N sc φ) (hi : N[i]? = some x) (hx : L2.Loc sc x) (he : SimX X s (.ListComp elt gs scope p) f) (hl : (sc.names.lookup x == some .local) = false := by rfl) (ho : okS s i = true := by rfl)
    (hf : φ x = true ∨ sc.names.lookup x = some .local := by first | exact .inr rfl | exact .inl rfl | assumption) : SimS X s s sl (.Assign [.Name x pos'] (.ListComp elt gs scope p) pos) (sAsg f (gN i)) :=
  s_set I hi hx he ho (sw_cell (by rw [I.hs]; exact hl)) hf
theorem s_newCell {i : Nat} {x : Str} {elt : Expr} {gs : List Comprehension} {scope : Scope} {p : Pos} {f : XS} {pos pos' : Pos} (I : In P w0 K mg base k X N sc φ) (hi : N[i]? = some x) (hx : L2.Loc sc x) (he : SimN X s (.ListComp elt gs scope p) f) (hl : (sc.names.lookup x == some .local) = false := by rfl) (ho : okS s i = true := by rfl)
    (hf : φ x = true ∨ sc.names.lookup x = some .local := by first | exact .inr rfl | exact .inl rfl | assumption) : SimS X s (s.add i) sl (.Assign [.Name x pos'] (.ListComp elt gs scope p) pos) (sNew f i) :=
  s_new I hi hx he ho (sw_cell (by rw [I.hs]; exact hl)) hf
/-- the end of a block: slots forgotten -/
def sWipe (ws : List Nat) : SS := fun env io => some (.nx, wipeE ws env, io)
theorem ss_nilW (ws : List Nat) (hl : Sh.le s' s = true := by rfl) (hw : okW s' ws = true := by rfl) : SimSs X s s' sl [] (sWipe ws) := PSs_mono pss_nil fun Z σ H h => by
  obtain ⟨T, H0, w, env, iod, fl, env', iod', R, e, q⟩ := h
  cases e
  obtain ⟨w', hio, R', cs⟩ := R.frz hl
  exact q w' σ H (.inr hio) cs (R'.wipe ws hw)
end PL

/-! PL19: the head's hook with a test of one's own; the law's end. -/
namespace PL
open PySem PySem.Spec PyProof.Rows L2
def obsY (n : Nat) (fa : List He.Fa) (fn : List He.DefD) (ex : PySem.W.Frag → Bool) (g : Addr → Option Obj) : Bool × He.AlD := (ex (He.frG g (He.asD g n)), He.obsD fa fn (He.frG g (He.asD g n)))
def hookY (n : Nat) (fa : List He.Fa) (fn : List He.DefD) (ex : PySem.W.Frag → Bool) : PySem.W.Hook where
  α := Bool × He.AlD
  obs := fun s => obsY n fa fn ex s.heap.get?
  val := fun _ => (true, He.valD fn)
  says := fun _ h => ∃ K : PySem.W.Frag, K.In h ∧ He.SaysD fa fn K ∧ ex K = true
  of := fun _ _ e => ⟨_, He.frG_in, congrArg (fun z : Bool × He.AlD => z.2) e, congrArg (fun z : Bool × He.AlD => z.1) e⟩
  keeps := fun _ _ _ ⟨K, hK, c⟩ k => ⟨K, PySem.W.Frag.In.keeps hK k, c⟩
theorem obsY_eq {n : Nat} {fa : List He.Fa} {fn : List He.DefD} {ex : PySem.W.Frag → Bool} {g : Addr → Option Obj} {s : Shared} (h : ∀ a, g a = s.heap.get? a) : obsY n fa fn ex g = (hookY n fa fn ex).obs s := by
  have e : g = s.heap.get? := funext h
  rw [e] <;> rfl
theorem kc_ints {K : PySem.W.Frag} {mg : Str → Option Value} {x : Str} {ns : List Int} (h : mg x = some (.ref (He.ga K x))) (t : He.tupB K x (ns.map He.Dv.int) = true) : Kc K mg x (.tuk (ns.map D.int)) := by
  refine ⟨_, .ref (He.ga K x), h, rfl, fun H => .tuk (He.tupB_ok t H) ?_⟩
  have e : (ns.map He.Dv.int).map (He.Dv.v K) = ns.map V.int := by rw [List.map_map]; rfl
  rw [e]
  exact DnL.ofInts
theorem kc_int {K : PySem.W.Frag} {mg : Str → Option Value} {x : Str} {i : Int} (h : ∃ t, mg x = some (.int i t)) : Kc K mg x (.int i) := by
  obtain ⟨t, h⟩ := h
  exact ⟨_, .int i, h, ⟨t, rfl⟩, fun H => .int i⟩
theorem cut_nil {H : Hp} : Same H (cut [] H) := fun b o e => by
  rw [cut_out List.not_mem_nil]; exact e
theorem sp_scr {K : PySem.W.Frag} {F : List D → Option D} {H : Hp} {a : Addr} {ns : List Int} {E : XK} (hS : SqL K H a (ns.map V.int)) (h : F [.scr ns] = some (.bl true)) : spP K 1 F [.ref a] H (fun v _ => v = .bl true) E := by
  refine ⟨rfl, [], [.scr ns], .bl true, List.nodup_nil, (fun p hp => by cases hp), .cons (.scr (L2.Same.seq cut_nil hS)) .nil, h, fun v H' _ d => ?_⟩
  exact dn_bl d
end PL

/-! TY1: typed readings of the pure semantics: embeddings, expressions. -/
namespace PL
open PySem PySem.Spec PyProof.Rows L2

/-! ### embeddings -/
section
variable {α β γ δ : Type}
abbrev eN : Unit → D := fun _ => .non
abbrev eL (e : α → D) : List α → D := fun xs => .lst (xs.map e)
abbrev eT (e : α → D) : List α → D := fun xs => .tup (xs.map e)
abbrev eK (e : α → D) : List α → D := fun xs => .tuk (xs.map e)
abbrev eP1 (e : α → D) : α → D := fun p => .tup [e p]
abbrev eP2 (e : α → D) (f : β → D) : α × β → D := fun p => .tup [e p.1, f p.2]
abbrev eP3 (e : α → D) (f : β → D) (g : γ → D) : α × β × γ → D := fun p => .tup [e p.1, f p.2.1, g p.2.2]
abbrev eP4 (e : α → D) (f : β → D) (g : γ → D) (h : δ → D) : α × β × γ × δ → D := fun p => .tup [e p.1, f p.2.1, g p.2.2.1, h p.2.2.2]
/-- a dict: int keys; keys that are tuples of ints -/
abbrev eDI (e : α → D) : List (Int × α) → D := fun kvs => .dic 0 (kvs.map fun p => (.int p.1, e p.2))
abbrev eDT (e : α → D) : List (List Int × α) → D := fun kvs => .dic 1 (kvs.map fun p => (.tup (p.1.map .int), e p.2))
abbrev eR : D → D := fun d => d
end

section
variable {α β γ δ ρ σ τ : Type} {env : Env} {io : D} {e : α → D} {e1 : α → D} {e2 : β → D} {e3 : γ → D} {e4 : δ → D}
abbrev TX (env : Env) (io : D) (f : XS) (e : α → D) (t : Option α) : Prop := f env io = t.map fun a => (e a, io)
abbrev TB (env : Env) (io : D) (f : BS) (t : Option Bool) : Prop := f env io = t.map fun a => (a, io)
abbrev TH (env : Env) (io : D) (f : XLS) (e : α → D) (t : Option (List α)) : Prop := f env io = t.map fun a => (a.map e, io)

theorem tx {f : XS} {s r : Option α} (h : TX env io f e s) (hr : s = r) : TX env io f e r := hr ▸ h
theorem t_var {a : α} (i : Nat) (h : env[i]? = some (some (e a))) : TX env io (xVar i) e (some a) := by
  show xVar i env io = _
  unfold xVar
  rw [h]
  rfl
theorem t_c {a : α} : TX env io (xC (e a)) e (some a) := rfl
theorem t_raw {f : XS} {t : Option α} (h : TX env io f e t) : TX env io f eR (t.map e) := by
  show f env io = _
  rw [h]
  cases t <;> rfl
theorem t_2 {op : D → D → Option D} {top : α → β → Option γ} {f g : XS} {s : Option α} {t : Option β} (hop : ∀ a b, op (e1 a) (e2 b) = (top a b).map e3) (hf : TX env io f e1 s) (hg : TX env io g e2 t) : TX env io (x2 op f g) e3 (s.bind fun a => t.bind fun b => top a b) := by
  show x2 op f g env io = _
  unfold x2
  rw [hf]
  cases s with
  | none => rfl
  | some a =>
    show (g env io).bind _ = _
    rw [hg]
    cases t with
    | none => rfl
    | some b =>
      show (op (e1 a) (e2 b)).map _ = _
      rw [hop]
      show _ = (top a b).map _
      cases top a b <;> rfl
theorem t_1 {op : D → Option D} {top : α → Option β} {f : XS} {s : Option α} (hop : ∀ a, op (e1 a) = (top a).map e2) (hf : TX env io f e1 s) : TX env io (x1 op f) e2 (s.bind top) := by
  show x1 op f env io = _
  unfold x1
  rw [hf]
  cases s with
  | none => rfl
  | some a =>
    show (op (e1 a)).map _ = (top a).map _
    rw [hop]
    cases top a <;> rfl
theorem t_rawp {f : XS} {a : α} (h : TX env io f e (some a)) : TX env io f eR (some (e a)) := t_raw h
theorem t_2p {op : D → D → Option D} {top : α → β → Option γ} {f g : XS} {a : α} {b : β} (hop : ∀ a b, op (e1 a) (e2 b) = (top a b).map e3) (hf : TX env io f e1 (some a)) (hg : TX env io g e2 (some b)) : TX env io (x2 op f g) e3 (top a b) := t_2 hop hf hg
theorem t_1p {op : D → Option D} {top : α → Option β} {f : XS} {a : α} (hop : ∀ a, op (e1 a) = (top a).map e2) (hf : TX env io f e1 (some a)) : TX env io (x1 op f) e2 (top a) := t_1 hop hf
/-! tests -/
theorem tb_x {f : XS} {t : Option Bool} (h : TX env io f D.bl t) : TB env io (bX f) t := by
  show bX f env io = _
  unfold bX
  rw [h]
  cases t <;> rfl
theorem tb_not {f : BS} {t : Option Bool} (h : TB env io f t) : TB env io (bNot f) (t.map not) := by
  show bNot f env io = _
  unfold bNot
  rw [h]
  cases t <;> rfl
theorem tb_and {f g : BS} {s t : Option Bool} (hf : TB env io f s) (hg : TB env io g t) : TB env io (bAnd f g) (s.bind fun a => if a then t else some false) := by
  show bAnd f g env io = _
  unfold bAnd
  rw [hf]
  cases s with
  | none => rfl
  | some a =>
    cases a with
    | true => exact hg
    | false => rfl
theorem tb_or {f g : BS} {s t : Option Bool} (hf : TB env io f s) (hg : TB env io g t) : TB env io (bOr f g) (s.bind fun a => if a then some true else t) := by
  show bOr f g env io = _
  unfold bOr
  rw [hf]
  cases s with
  | none => rfl
  | some a =>
    cases a with
    | true => rfl
    | false => exact hg
theorem t_and {f g : XS} {s t : Option Bool} (hf : TX env io f D.bl s) (hg : TX env io g D.bl t) : TX env io (xAnd f g) D.bl (s.bind fun a => if a then t else some false) := by
  show xAnd f g env io = _
  unfold xAnd
  rw [tb_x hf]
  cases s with
  | none => rfl
  | some a =>
    cases a with
    | true => exact hg
    | false => rfl
theorem t_or {f g : XS} {s t : Option Bool} (hf : TX env io f D.bl s) (hg : TX env io g D.bl t) : TX env io (xOr f g) D.bl (s.bind fun a => if a then some true else t) := by
  show xOr f g env io = _
  unfold xOr
  rw [tb_x hf]
  cases s with
  | none => rfl
  | some a =>
    cases a with
    | true => rfl
    | false => exact hg
theorem t_not {f : XS} {t : Option Bool} (h : TX env io f D.bl t) : TX env io (xNot f) D.bl (t.map not) := by
  show xNot f env io = _
  unfold xNot
  rw [tb_x h]
  cases t <;> rfl
theorem t_if {c : BS} {f g : XS} {s : Option Bool} {t u : Option α} (hc : TB env io c s) (hf : TX env io f e t) (hg : TX env io g e u) : TX env io (xIf c f g) e (s.bind fun a => if a then t else u) := by
  show xIf c f g env io = _
  unfold xIf
  rw [hc]
  cases s with
  | none => rfl
  | some a =>
    cases a with
    | true => exact hf
    | false => exact hg
theorem t_chain {op op' : D → D → Option D} {c1 c2 : Int → Int → Bool} {f g h : XS} {s t u : Option Int} (h1 : ∀ a b, op (.int a) (.int b) = some (.bl (c1 a b))) (h2 : ∀ a b, op' (.int a) (.int b) = some (.bl (c2 a b)))
    (hf : TX env io f D.int s) (hg : TX env io g D.int t) (hh : TX env io h D.int u) : TX env io (xChain op op' f g h) D.bl (s.bind fun a => t.bind fun b => if c1 a b then u.bind fun c => some (c2 b c) else some false) := by
  show xChain op op' f g h env io = _
  unfold xChain
  rw [hf]
  cases s with
  | none => rfl
  | some a =>
    show (g env io).bind _ = _
    rw [hg]
    cases t with
    | none => rfl
    | some b =>
      show ((op (.int a) (.int b)).bind _) = (if c1 a b then u.bind fun c => some (c2 b c) else some false).map _
      rw [h1]
      show (match D.bl (c1 a b) with
        | .bl true => (h env io).bind fun z => (op' (.int b) z.1).map fun u => (u, z.2)
        | .bl false => some (.bl false, io)
        | _ => none) = _
      cases c1 a b with
      | true =>
        show (h env io).bind _ = _
        rw [hh]
        cases u with
        | none => rfl
        | some c =>
          show (op' (.int b) (.int c)).map _ = _
          rw [h2]
          rfl
      | false => rfl
theorem tb_notp {f : BS} {a : Bool} (h : TB env io f (some a)) : TB env io (bNot f) (some (!a)) := tb_not h
theorem tb_andp {f g : BS} {a : Bool} {t : Option Bool} (hf : TB env io f (some a)) (hg : TB env io g t) : TB env io (bAnd f g) (if a then t else some false) := tb_and hf hg
theorem tb_orp {f g : BS} {a : Bool} {t : Option Bool} (hf : TB env io f (some a)) (hg : TB env io g t) : TB env io (bOr f g) (if a then some true else t) := tb_or hf hg
theorem t_andp {f g : XS} {a : Bool} {t : Option Bool} (hf : TX env io f D.bl (some a)) (hg : TX env io g D.bl t) : TX env io (xAnd f g) D.bl (if a then t else some false) := t_and hf hg
theorem t_orp {f g : XS} {a : Bool} {t : Option Bool} (hf : TX env io f D.bl (some a)) (hg : TX env io g D.bl t) : TX env io (xOr f g) D.bl (if a then some true else t) := t_or hf hg
theorem t_notp {f : XS} {a : Bool} (h : TX env io f D.bl (some a)) : TX env io (xNot f) D.bl (some (!a)) := t_not h
theorem t_ifp {c : BS} {f g : XS} {a : Bool} {t u : Option α} (hc : TB env io c (some a)) (hf : TX env io f e t) (hg : TX env io g e u) : TX env io (xIf c f g) e (if a then t else u) := t_if hc hf hg
theorem t_chainp {op op' : D → D → Option D} {c1 c2 : Int → Int → Bool} {f g h : XS} {a b c : Int} (h1 : ∀ a b, op (.int a) (.int b) = some (.bl (c1 a b))) (h2 : ∀ a b, op' (.int a) (.int b) = some (.bl (c2 a b)))
    (hf : TX env io f D.int (some a)) (hg : TX env io g D.int (some b)) (hh : TX env io h D.int (some c)) : TX env io (xChain op op' f g h) D.bl (if c1 a b then some (c2 b c) else some false) := t_chain h1 h2 hf hg hh
/-! ### lists of like things -/
theorem th {f : XLS} {s r : Option (List α)} (h : TH env io f e s) (hr : s = r) : TH env io f e r := hr ▸ h
theorem th_nil : TH env io xNil e (some []) := rfl
theorem th_cons {f : XS} {g : XLS} {s : Option α} {t : Option (List α)} (hf : TX env io f e s) (hg : TH env io g e t) : TH env io (xCons f g) e (s.bind fun a => t.map fun as => a :: as) := by
  show xCons f g env io = _
  unfold xCons
  rw [hf]
  cases s with
  | none => rfl
  | some a =>
    show (g env io).map _ = _
    rw [hg]
    cases t <;> rfl
theorem th_consp {f : XS} {g : XLS} {a : α} {as : List α} (hf : TX env io f e (some a)) (hg : TH env io g e (some as)) : TH env io (xCons f g) e (some (a :: as)) := th_cons hf hg
def szO {α : Type} (xs : List α) : Option (List α) := if szL xs.length then some xs else none
theorem szO_map {β : Type} {f : α → β} {xs : List α} {g : List β → γ} : (if szL (xs.map f).length then some (g (xs.map f)) else none) = (szO xs).map fun ys => g (ys.map f) := by
  unfold szO
  rw [List.length_map]
  cases szL xs.length <;> rfl
theorem t_tupH {g : XLS} {t : Option (List α)} (h : TH env io g e t) : TX env io (xTup g) (eT e) (t.bind szO) := by
  show xTup g env io = _
  unfold xTup
  rw [h]
  cases t with
  | none => rfl
  | some as =>
    show (if szL (as.map e).length then some (D.tup (as.map e), io) else none) = ((szO as).map _)
    rw [szO_map (g := fun ds => (D.tup ds, io))]
theorem t_lstH {g : XLS} {t : Option (List α)} (h : TH env io g e t) : TX env io (xLst g) (eL e) (t.bind szO) := by
  show xLst g env io = _
  unfold xLst
  rw [h]
  cases t with
  | none => rfl
  | some as =>
    show (if szL (as.map e).length then some (D.lst (as.map e), io) else none) = ((szO as).map _)
    rw [szO_map (g := fun ds => (D.lst ds, io))]
theorem t_tupHp {g : XLS} {as : List α} (h : TH env io g e (some as)) (hz : szL as.length = true := by rfl) : TX env io (xTup g) (eT e) (some as) := by
  have := t_tupH h
  rw [show (some as).bind szO = some as from by show szO as = _; unfold szO; rw [hz]; rfl] at this
  exact this
theorem t_lstHp {g : XLS} {as : List α} (h : TH env io g e (some as)) (hz : szL as.length = true := by rfl) : TX env io (xLst g) (eL e) (some as) := by
  have := t_lstH h
  rw [show (some as).bind szO = some as from by show szO as = _; unfold szO; rw [hz]; rfl] at this
  exact this
theorem xCons_run {f : XS} {g : XLS} {s : Option α} (hf : TX env io f e1 s) : xCons f g env io = s.bind fun a => (g env io).map fun r => (e1 a :: r.1, r.2) := by
  unfold xCons
  rw [hf]
  cases s <;> rfl
theorem xNil_run : xNil env io = some ([], io) := rfl
/-! fixed tuples -/
theorem t_p1 {f : XS} {s : Option α} (h : TX env io f e1 s) : TX env io (xTup (xCons f xNil)) (eP1 e1) s := by
  show xTup _ env io = _
  unfold xTup xCons
  rw [h]
  cases s <;> rfl
theorem t_p2 {f g : XS} {s : Option α} {t : Option β} (h1 : TX env io f e1 s) (h2 : TX env io g e2 t) : TX env io (xTup (xCons f (xCons g xNil))) (eP2 e1 e2) (s.bind fun a => t.bind fun b => some (a, b)) := by
  show xTup _ env io = _
  unfold xTup
  rw [xCons_run h1, xCons_run h2, xNil_run]
  cases s with
  | none => rfl
  | some a => cases t <;> rfl
theorem t_p3 {f g h : XS} {s : Option α} {t : Option β} {u : Option γ} (h1 : TX env io f e1 s) (h2 : TX env io g e2 t) (h3 : TX env io h e3 u) : TX env io (xTup (xCons f (xCons g (xCons h xNil)))) (eP3 e1 e2 e3) (s.bind fun a => t.bind fun b => u.bind fun c => some (a, b, c)) := by
  show xTup _ env io = _
  unfold xTup
  rw [xCons_run h1, xCons_run h2, xCons_run h3, xNil_run]
  cases s with
  | none => rfl
  | some a =>
    cases t with
    | none => rfl
    | some b => cases u <;> rfl
theorem t_p4 {f g h k : XS} {s : Option α} {t : Option β} {u : Option γ} {v : Option δ} (h1 : TX env io f e1 s) (h2 : TX env io g e2 t) (h3 : TX env io h e3 u) (h4 : TX env io k e4 v) : TX env io (xTup (xCons f (xCons g (xCons h (xCons k xNil))))) (eP4 e1 e2 e3 e4) (s.bind fun a => t.bind fun b => u.bind fun c => v.bind fun d => some (a, b, c, d)) := by
  show xTup _ env io = _
  unfold xTup
  rw [xCons_run h1, xCons_run h2, xCons_run h3, xCons_run h4, xNil_run]
  cases s with
  | none => rfl
  | some a =>
    cases t with
    | none => rfl
    | some b =>
      cases u with
      | none => rfl
      | some c => cases v <;> rfl
theorem t_p1p {f : XS} {a : α} (h : TX env io f e1 (some a)) : TX env io (xTup (xCons f xNil)) (eP1 e1) (some a) := t_p1 h
theorem t_p2p {f g : XS} {a : α} {b : β} (h1 : TX env io f e1 (some a)) (h2 : TX env io g e2 (some b)) : TX env io (xTup (xCons f (xCons g xNil))) (eP2 e1 e2) (some (a, b)) := t_p2 h1 h2
theorem t_p3p {f g h : XS} {a : α} {b : β} {c : γ} (h1 : TX env io f e1 (some a)) (h2 : TX env io g e2 (some b)) (h3 : TX env io h e3 (some c)) : TX env io (xTup (xCons f (xCons g (xCons h xNil)))) (eP3 e1 e2 e3) (some (a, b, c)) := t_p3 h1 h2 h3
theorem t_p4p {f g h k : XS} {a : α} {b : β} {c : γ} {d : δ} (h1 : TX env io f e1 (some a)) (h2 : TX env io g e2 (some b)) (h3 : TX env io h e3 (some c)) (h4 : TX env io k e4 (some d)) : TX env io (xTup (xCons f (xCons g (xCons h (xCons k xNil))))) (eP4 e1 e2 e3 e4) (some (a, b, c, d)) := t_p4 h1 h2 h3 h4
/-! ### calls -/
theorem t_call {F : List D → Option D} {g : XLS} {t : Option (List D)} {top : List D → Option β} (hg : TH env io g eR t) (hop : ∀ ds, F ds = (top ds).map e2) : TX env io (xCall F g) e2 (t.bind top) := by
  show xCall F g env io = _
  unfold xCall
  rw [hg]
  cases t with
  | none => rfl
  | some ds =>
    show (F (ds.map eR)).map _ = (top ds).map _
    rw [List.map_id', hop]
    cases top ds <;> rfl
section
variable {F : List D → Option D} {ε ζ : Type} {e5 : ε → D} {er : ρ → D} {f1 f2 f3 f4 f5 : XS} {s1 : Option α} {s2 : Option β} {s3 : Option γ} {s4 : Option δ} {s5 : Option ε}
theorem t_call1 {top : α → Option ρ} (hop : ∀ a, F [e1 a] = (top a).map er) (h1 : TX env io f1 e1 s1) : TX env io (xCall F (xCons f1 xNil)) er (s1.bind top) := by
  show xCall F _ env io = _
  unfold xCall
  rw [xCons_run h1, xNil_run]
  cases s1 with
  | none => rfl
  | some a =>
    show (F [e1 a]).map _ = (top a).map _
    rw [hop]
    cases top a <;> rfl
theorem t_call2 {top : α → β → Option ρ} (hop : ∀ a b, F [e1 a, e2 b] = (top a b).map er) (h1 : TX env io f1 e1 s1) (h2 : TX env io f2 e2 s2) : TX env io (xCall F (xCons f1 (xCons f2 xNil))) er (s1.bind fun a => s2.bind fun b => top a b) := by
  show xCall F _ env io = _
  unfold xCall
  rw [xCons_run h1, xCons_run h2, xNil_run]
  cases s1 with
  | none => rfl
  | some a =>
    cases s2 with
    | none => rfl
    | some b =>
      show (F [e1 a, e2 b]).map _ = (top a b).map _
      rw [hop]
      cases top a b <;> rfl
theorem t_call3 {top : α → β → γ → Option ρ} (hop : ∀ a b c, F [e1 a, e2 b, e3 c] = (top a b c).map er) (h1 : TX env io f1 e1 s1) (h2 : TX env io f2 e2 s2) (h3 : TX env io f3 e3 s3) : TX env io (xCall F (xCons f1 (xCons f2 (xCons f3 xNil)))) er (s1.bind fun a => s2.bind fun b => s3.bind fun c => top a b c) := by
  show xCall F _ env io = _
  unfold xCall
  rw [xCons_run h1, xCons_run h2, xCons_run h3, xNil_run]
  cases s1 with
  | none => rfl
  | some a =>
    cases s2 with
    | none => rfl
    | some b =>
      cases s3 with
      | none => rfl
      | some c =>
        show (F [e1 a, e2 b, e3 c]).map _ = (top a b c).map _
        rw [hop]
        cases top a b c <;> rfl
theorem t_call4 {top : α → β → γ → δ → Option ρ} (hop : ∀ a b c d, F [e1 a, e2 b, e3 c, e4 d] = (top a b c d).map er) (h1 : TX env io f1 e1 s1) (h2 : TX env io f2 e2 s2) (h3 : TX env io f3 e3 s3) (h4 : TX env io f4 e4 s4) : TX env io (xCall F (xCons f1 (xCons f2 (xCons f3 (xCons f4 xNil))))) er (s1.bind fun a => s2.bind fun b => s3.bind fun c => s4.bind fun d => top a b c d) := by
  show xCall F _ env io = _
  unfold xCall
  rw [xCons_run h1, xCons_run h2, xCons_run h3, xCons_run h4, xNil_run]
  cases s1 with
  | none => rfl
  | some a =>
    cases s2 with
    | none => rfl
    | some b =>
      cases s3 with
      | none => rfl
      | some c =>
        cases s4 with
        | none => rfl
        | some d =>
          show (F [e1 a, e2 b, e3 c, e4 d]).map _ = (top a b c d).map _
          rw [hop]
          cases top a b c d <;> rfl
theorem t_call5 {top : α → β → γ → δ → ε → Option ρ} (hop : ∀ a b c d e, F [e1 a, e2 b, e3 c, e4 d, e5 e] = (top a b c d e).map er) (h1 : TX env io f1 e1 s1) (h2 : TX env io f2 e2 s2) (h3 : TX env io f3 e3 s3) (h4 : TX env io f4 e4 s4) (h5 : TX env io f5 e5 s5) : TX env io (xCall F (xCons f1 (xCons f2 (xCons f3 (xCons f4 (xCons f5 xNil)))))) er (s1.bind fun a => s2.bind fun b => s3.bind fun c => s4.bind fun d => s5.bind fun e => top a b c d e) := by
  show xCall F _ env io = _
  unfold xCall
  rw [xCons_run h1, xCons_run h2, xCons_run h3, xCons_run h4, xCons_run h5, xNil_run]
  cases s1 with
  | none => rfl
  | some a =>
    cases s2 with
    | none => rfl
    | some b =>
      cases s3 with
      | none => rfl
      | some c =>
        cases s4 with
        | none => rfl
        | some d =>
          cases s5 with
          | none => rfl
          | some z =>
            show (F [e1 a, e2 b, e3 c, e4 d, e5 z]).map _ = (top a b c d z).map _
            rw [hop]
            cases top a b c d z <;> rfl
end
section
variable {F : List D → Option D} {ε ζ : Type} {e5 : ε → D} {er : ρ → D} {f1 f2 f3 f4 f5 : XS} {a : α} {b : β} {c : γ} {d : δ} {z : ε}
theorem t_call1p {top : α → Option ρ} (hop : ∀ a, F [e1 a] = (top a).map er) (h1 : TX env io f1 e1 (some a)) : TX env io (xCall F (xCons f1 xNil)) er (top a) := t_call1 hop h1
theorem t_call2p {top : α → β → Option ρ} (hop : ∀ a b, F [e1 a, e2 b] = (top a b).map er) (h1 : TX env io f1 e1 (some a)) (h2 : TX env io f2 e2 (some b)) : TX env io (xCall F (xCons f1 (xCons f2 xNil))) er (top a b) := t_call2 hop h1 h2
theorem t_call3p {top : α → β → γ → Option ρ} (hop : ∀ a b c, F [e1 a, e2 b, e3 c] = (top a b c).map er) (h1 : TX env io f1 e1 (some a)) (h2 : TX env io f2 e2 (some b)) (h3 : TX env io f3 e3 (some c)) : TX env io (xCall F (xCons f1 (xCons f2 (xCons f3 xNil)))) er (top a b c) := t_call3 hop h1 h2 h3
theorem t_call4p {top : α → β → γ → δ → Option ρ} (hop : ∀ a b c d, F [e1 a, e2 b, e3 c, e4 d] = (top a b c d).map er) (h1 : TX env io f1 e1 (some a)) (h2 : TX env io f2 e2 (some b)) (h3 : TX env io f3 e3 (some c)) (h4 : TX env io f4 e4 (some d)) : TX env io (xCall F (xCons f1 (xCons f2 (xCons f3 (xCons f4 xNil))))) er (top a b c d) := t_call4 hop h1 h2 h3 h4
theorem t_call5p {top : α → β → γ → δ → ε → Option ρ} (hop : ∀ a b c d e, F [e1 a, e2 b, e3 c, e4 d, e5 e] = (top a b c d e).map er) (h1 : TX env io f1 e1 (some a)) (h2 : TX env io f2 e2 (some b)) (h3 : TX env io f3 e3 (some c)) (h4 : TX env io f4 e4 (some d)) (h5 : TX env io f5 e5 (some z)) : TX env io (xCall F (xCons f1 (xCons f2 (xCons f3 (xCons f4 (xCons f5 xNil)))))) er (top a b c d z) := t_call5 hop h1 h2 h3 h4 h5
end
/-! ### slices -/
abbrev TO (env : Env) (io : D) (f : XO) (t : Option (Option Int)) : Prop := f env io = t.map fun a => (a, io)
theorem to_none : TO env io oNone (some none) := rfl
theorem to_some {f : XS} {t : Option Int} (h : TX env io f D.int t) : TO env io (oSome f) (t.map some) := by
  show oSome f env io = _
  unfold oSome
  rw [h]
  cases t <;> rfl
def cutA {α : Type} (xs : List α) (lo hi : Option Int) : List α := (xs.drop (HT.sIx xs.length 0 lo)).take (HT.sIx xs.length xs.length hi - HT.sIx xs.length 0 lo)
theorem cutD_map {xs : List α} {lo hi : Option Int} : cutD (xs.map e) lo hi = (cutA xs lo hi).map e := by
  unfold cutD cutA
  rw [List.length_map, List.map_take, List.map_drop]
theorem t_slL {f : XS} {l h : XO} {s : Option (List α)} {t u : Option (Option Int)} (hf : TX env io f (eL e) s) (hl : TO env io l t) (hh : TO env io h u) : TX env io (xSl f l h) (eL e) (s.bind fun xs => t.bind fun i => u.bind fun j => some (cutA xs i j)) := by
  show xSl f l h env io = _
  unfold xSl
  rw [hf]
  cases s with
  | none => rfl
  | some xs =>
    show (l env io).bind _ = _
    rw [hl]
    cases t with
    | none => rfl
    | some i =>
      show (h env io).bind _ = _
      rw [hh]
      cases u with
      | none => rfl
      | some j =>
        show some (D.lst (cutD (xs.map e) i j), io) = _
        rw [cutD_map]
        rfl
theorem t_slT {f : XS} {l h : XO} {s : Option (List α)} {t u : Option (Option Int)} (hf : TX env io f (eT e) s) (hl : TO env io l t) (hh : TO env io h u) : TX env io (xSl f l h) (eT e) (s.bind fun xs => t.bind fun i => u.bind fun j => some (cutA xs i j)) := by
  show xSl f l h env io = _
  unfold xSl
  rw [hf]
  cases s with
  | none => rfl
  | some xs =>
    show (l env io).bind _ = _
    rw [hl]
    cases t with
    | none => rfl
    | some i =>
      show (h env io).bind _ = _
      rw [hh]
      cases u with
      | none => rfl
      | some j =>
        show some (D.tup (cutD (xs.map e) i j), io) = _
        rw [cutD_map]
        rfl
theorem to_somep {f : XS} {a : Int} (h : TX env io f D.int (some a)) : TO env io (oSome f) (some (some a)) := to_some h
theorem t_slLp {f : XS} {l h : XO} {xs : List α} {i j : Option Int} (hf : TX env io f (eL e) (some xs)) (hl : TO env io l (some i)) (hh : TO env io h (some j)) : TX env io (xSl f l h) (eL e) (some (cutA xs i j)) := t_slL hf hl hh
theorem t_slTp {f : XS} {l h : XO} {xs : List α} {i j : Option Int} (hf : TX env io f (eT e) (some xs)) (hl : TO env io l (some i)) (hh : TO env io h (some j)) : TX env io (xSl f l h) (eT e) (some (cutA xs i j)) := t_slT hf hl hh
/-! ### sources -/
abbrev TS (env : Env) (io : D) (f : XLS) (e : α → D) (t : Option (List α)) : Prop := TH env io f e t
theorem ts_lst {f : XS} {s : Option (List α)} (h : TX env io f (eL e) s) : TS env io (xSeq f) e (s.bind szO) := by
  show xSeq f env io = _
  unfold xSeq
  rw [h]
  cases s with
  | none => rfl
  | some xs =>
    show (if szL (xs.map e).length then some (xs.map e, io) else none) = (szO xs).map _
    rw [szO_map (g := fun ds => (ds, io))]
theorem ts_tup {f : XS} {s : Option (List α)} (h : TX env io f (eT e) s) : TS env io (xSeq f) e (s.bind szO) := by
  show xSeq f env io = _
  unfold xSeq
  rw [h]
  cases s with
  | none => rfl
  | some xs =>
    show (if szL (xs.map e).length then some (xs.map e, io) else none) = (szO xs).map _
    rw [szO_map (g := fun ds => (ds, io))]
def rangeI (lo : Int) (n : Nat) : List Int := (List.range n).map fun i => lo + (i : Nat)
@[irreducible] def rangeO1 (n : Int) : Option (List Int) := if small62 n && szL n.toNat then some (rangeI 0 n.toNat) else none
@[irreducible] def rangeO2 (m n : Int) : Option (List Int) := if small62 m && small62 n && szL (n - m).toNat then some (rangeI m (n - m).toNat) else none
theorem rangeD_I {lo : Int} {n : Nat} : rangeD lo n = (rangeI lo n).map D.int := by
  unfold rangeD rangeI
  rw [List.map_map]
  rfl
theorem ts_range1 {f : XS} {s : Option Int} (h : TX env io f D.int s) : TS env io (xSrc range1 (xCons f xNil)) D.int (s.bind rangeO1) := by
  show xSrc range1 _ env io = _
  unfold xSrc
  rw [xCons_run h, xNil_run]
  cases s with
  | none => rfl
  | some n =>
    show (if small62 n && szL n.toNat then some (rangeD 0 n.toNat) else none).map _ = (rangeO1 n).map _
    unfold rangeO1
    rw [rangeD_I]
    cases small62 n && szL n.toNat <;> rfl
theorem ts_range2 {f g : XS} {s t : Option Int} (h : TX env io f D.int s) (h2 : TX env io g D.int t) : TS env io (xSrc range2 (xCons f (xCons g xNil))) D.int (s.bind fun a => t.bind fun b => rangeO2 a b) := by
  show xSrc range2 _ env io = _
  unfold xSrc
  rw [xCons_run h, xCons_run h2, xNil_run]
  cases s with
  | none => rfl
  | some m =>
    cases t with
    | none => rfl
    | some n =>
      show (if small62 m && small62 n && szL (n - m).toNat then some (rangeD m (n - m).toNat) else none).map _ = (rangeO2 m n).map _
      unfold rangeO2
      rw [rangeD_I]
      cases small62 m && small62 n && szL (n - m).toNat <;> rfl
def enumI {α : Type} : Int → List α → List (Int × α)
  | _, [] => []
  | i, a :: as => (i, a) :: enumI (i + 1) as
theorem enumD_I : ∀ {xs : List α} {i : Int}, enumD i (xs.map e) = (enumI i xs).map (eP2 D.int e)
  | [], _ => rfl
  | a :: as, i => by
    rw [List.map_cons, enumD, enumI, List.map_cons, enumD_I]
theorem ts_enumL {f : XS} {s : Option (List α)} (h : TX env io f (eL e) s) : TS env io (xSrc enumS (xCons f xNil)) (eP2 D.int e) (s.bind fun xs => (szO xs).map fun ys => enumI 0 ys) := by
  show xSrc enumS _ env io = _
  unfold xSrc
  rw [xCons_run h, xNil_run]
  cases s with
  | none => rfl
  | some xs =>
    show (if szL (xs.map e).length then some (enumD 0 (xs.map e)) else none).map _ = ((szO xs).map _).map _
    rw [szO_map (g := fun ds => enumD 0 ds)]
    unfold szO
    cases szL xs.length with
    | true =>
      show some (enumD 0 (xs.map e), io) = some ((enumI 0 xs).map (eP2 D.int e), io)
      rw [enumD_I]
    | false => rfl
theorem ts_enumT {f : XS} {s : Option (List α)} (h : TX env io f (eT e) s) : TS env io (xSrc enumS (xCons f xNil)) (eP2 D.int e) (s.bind fun xs => (szO xs).map fun ys => enumI 0 ys) := by
  show xSrc enumS _ env io = _
  unfold xSrc
  rw [xCons_run h, xNil_run]
  cases s with
  | none => rfl
  | some xs =>
    show (if szL (xs.map e).length then some (enumD 0 (xs.map e)) else none).map _ = ((szO xs).map _).map _
    rw [szO_map (g := fun ds => enumD 0 ds)]
    unfold szO
    cases szL xs.length with
    | true =>
      show some (enumD 0 (xs.map e), io) = some ((enumI 0 xs).map (eP2 D.int e), io)
      rw [enumD_I]
    | false => rfl
theorem zipD_I : ∀ {xs : List α} {ys : List β}, zipD (xs.map e1) (ys.map e2) = (xs.zip ys).map (eP2 e1 e2)
  | [], _ => rfl
  | _ :: _, [] => rfl
  | a :: as, b :: bs => by
    rw [List.map_cons, List.map_cons, zipD, List.zip_cons_cons, List.map_cons, zipD_I]
@[irreducible] def zipO {α β : Type} (xs : List α) (ys : List β) : Option (List (α × β)) := if szL xs.length then some (xs.zip ys) else none
theorem ts_zipL {f g : XS} {s : Option (List α)} {t : Option (List β)} (h : TX env io f (eL e1) s) (h2 : TX env io g (eL e2) t) : TS env io (xSrc zipS (xCons f (xCons g xNil))) (eP2 e1 e2) (s.bind fun a => t.bind fun b => zipO a b) := by
  show xSrc zipS _ env io = _
  unfold xSrc
  rw [xCons_run h, xCons_run h2, xNil_run]
  cases s with
  | none => rfl
  | some xs =>
    cases t with
    | none => rfl
    | some ys =>
      show (if szL (xs.map e1).length then some (zipD (xs.map e1) (ys.map e2)) else none).map _ = (zipO xs ys).map _
      rw [List.length_map, zipD_I]
      unfold zipO
      cases szL xs.length <;> rfl
theorem ts_zipT {f g : XS} {s : Option (List α)} {t : Option (List β)} (h : TX env io f (eT e1) s) (h2 : TX env io g (eT e2) t) : TS env io (xSrc zipS (xCons f (xCons g xNil))) (eP2 e1 e2) (s.bind fun a => t.bind fun b => zipO a b) := by
  show xSrc zipS _ env io = _
  unfold xSrc
  rw [xCons_run h, xCons_run h2, xNil_run]
  cases s with
  | none => rfl
  | some xs =>
    cases t with
    | none => rfl
    | some ys =>
      show (if szL (xs.map e1).length then some (zipD (xs.map e1) (ys.map e2)) else none).map _ = (zipO xs ys).map _
      rw [List.length_map, zipD_I]
      unfold zipO
      cases szL xs.length <;> rfl
theorem ts_lstp {f : XS} {xs : List α} (h : TX env io f (eL e) (some xs)) : TS env io (xSeq f) e (szO xs) := ts_lst h
theorem ts_tupp {f : XS} {xs : List α} (h : TX env io f (eT e) (some xs)) : TS env io (xSeq f) e (szO xs) := ts_tup h
theorem ts_range1p {f : XS} {a : Int} (h : TX env io f D.int (some a)) : TS env io (xSrc range1 (xCons f xNil)) D.int (rangeO1 a) := ts_range1 h
theorem ts_range2p {f g : XS} {a b : Int} (h : TX env io f D.int (some a)) (h2 : TX env io g D.int (some b)) : TS env io (xSrc range2 (xCons f (xCons g xNil))) D.int (rangeO2 a b) := ts_range2 h h2
theorem ts_enumLp {f : XS} {xs : List α} (h : TX env io f (eL e) (some xs)) : TS env io (xSrc enumS (xCons f xNil)) (eP2 D.int e) ((szO xs).map fun ys => enumI 0 ys) := ts_enumL h
theorem ts_enumTp {f : XS} {xs : List α} (h : TX env io f (eT e) (some xs)) : TS env io (xSrc enumS (xCons f xNil)) (eP2 D.int e) ((szO xs).map fun ys => enumI 0 ys) := ts_enumT h
theorem ts_zipLp {f g : XS} {xs : List α} {ys : List β} (h : TX env io f (eL e1) (some xs)) (h2 : TX env io g (eL e2) (some ys)) : TS env io (xSrc zipS (xCons f (xCons g xNil))) (eP2 e1 e2) (zipO xs ys) := ts_zipL h h2
theorem ts_zipTp {f g : XS} {xs : List α} {ys : List β} (h : TX env io f (eT e1) (some xs)) (h2 : TX env io g (eT e2) (some ys)) : TS env io (xSrc zipS (xCons f (xCons g xNil))) (eP2 e1 e2) (zipO xs ys) := ts_zipT h h2
/-! ### comprehensions -/
def fmO {α β : Type} (p : α → Option Bool) (h : α → Option β) : List α → Option (List β)
  | [] => some []
  | a :: as => (p a).bind fun k => if k then (h a).bind fun y => (fmO p h as).map fun r => y :: r else fmO p h as
def mapO {α β : Type} (h : α → Option β) : List α → Option (List β)
  | [] => some []
  | a :: as => (h a).bind fun y => (mapO h as).map fun r => y :: r
theorem comp_run {vs : List Nat} {b : BD} {t : BS} {x : XS} {E : α → Env} {p : α → Option Bool} {h : α → Option β} (hb : ∀ a, b (e1 a) (wipeE vs env) = some (E a)) (ht : ∀ a, TB (E a) io t (p a)) (hx : ∀ a, TX (E a) io x e2 (h a)) :
    ∀ as : List α, compL vs b t x env (as.map e1) io = (fmO p h as).map fun r => (r.map e2, io)
  | [] => rfl
  | a :: as => by
    have ih := comp_run hb ht hx as
    rw [List.map_cons, compL, hb]
    show (t (E a) io).bind _ = _
    rw [ht]
    show _ = ((p a).bind _).map _
    cases p a with
    | none => rfl
    | some k =>
      cases k with
      | true =>
        show (x (E a) io).bind _ = ((h a).bind _).map _
        rw [hx]
        cases h a with
        | none => rfl
        | some y =>
          show (compL vs b t x env (as.map e1) io).map _ = ((fmO p h as).map _).map _
          rw [ih]
          cases fmO p h as <;> rfl
      | false => exact ih
theorem fmO_yes {α β : Type} {h : α → Option β} : ∀ as : List α, fmO (fun _ => some true) h as = mapO h as
  | [] => rfl
  | a :: as => by
    unfold fmO mapO
    rw [fmO_yes as]
    rfl
theorem mapO_some {α β : Type} {h : α → β} : ∀ as : List α, mapO (fun a => some (h a)) as = some (as.map h)
  | [] => rfl
  | a :: as => by
    unfold mapO
    rw [mapO_some as]
    rfl
theorem t_comp {vs : List Nat} {src : XLS} {b : BD} {t : BS} {x : XS} (E : α → Env) {p : α → Option Bool} {h : α → Option β} {s : Option (List α)} (hs : TS env io src e1 s) (hb : ∀ a, b (e1 a) (wipeE vs env) = some (E a)) (ht : ∀ a, TB (E a) io t (p a)) (hx : ∀ a, TX (E a) io x e2 (h a)) :
    TX env io (xComp vs src b t x) (eL e2) (s.bind fun as => fmO p h as) := by
  show xComp vs src b t x env io = _
  unfold xComp
  rw [hs]
  cases s with
  | none => rfl
  | some as =>
    show (compL vs b t x env (as.map e1) io).map _ = (fmO p h as).map _
    rw [comp_run hb ht hx]
    cases fmO p h as <;> rfl
theorem t_compA {vs : List Nat} {src : XLS} {b : BD} {x : XS} (E : α → Env) {h : α → Option β} {s : Option (List α)} (hs : TS env io src e1 s) (hb : ∀ a, b (e1 a) (wipeE vs env) = some (E a)) (hx : ∀ a, TX (E a) io x e2 (h a)) :
    TX env io (xComp vs src b bYes x) (eL e2) (s.bind fun as => mapO h as) := by
  have := t_comp (p := fun _ => some true) E hs hb (t := bYes) (fun a => rfl) hx
  simp only [fmO_yes] at this
  exact this
/-- the parts are total -/
theorem t_compP {vs : List Nat} {src : XLS} {b : BD} {x : XS} (E : α → Env) {h : α → β} {s : Option (List α)} (hs : TS env io src e1 s) (hb : ∀ a, b (e1 a) (wipeE vs env) = some (E a)) (hx : ∀ a, TX (E a) io x e2 (some (h a))) :
    TX env io (xComp vs src b bYes x) (eL e2) (s.map fun as => as.map h) := by
  have := t_compA E hs hb hx
  simp only [mapO_some] at this
  rw [show (s.map fun as => as.map h) = s.bind fun as => some (as.map h) from by cases s <;> rfl]
  exact this
theorem fmO_some {α β : Type} {p : α → Bool} {h : α → β} : ∀ as : List α, fmO (fun a => some (p a)) (fun a => some (h a)) as = some ((as.filter p).map h)
  | [] => rfl
  | a :: as => by
    unfold fmO
    rw [fmO_some as, List.filter_cons]
    cases p a <;> rfl
theorem t_compF {vs : List Nat} {src : XLS} {b : BD} {t : BS} {x : XS} (E : α → Env) {p : α → Bool} {h : α → β} {s : Option (List α)} (hs : TS env io src e1 s) (hb : ∀ a, b (e1 a) (wipeE vs env) = some (E a)) (ht : ∀ a, TB (E a) io t (some (p a))) (hx : ∀ a, TX (E a) io x e2 (some (h a))) :
    TX env io (xComp vs src b t x) (eL e2) (s.map fun as => (as.filter p).map h) := by
  have := t_comp E hs hb ht hx
  simp only [fmO_some] at this
  rw [show (s.map fun as => (as.filter p).map h) = s.bind fun as => some ((as.filter p).map h) from by cases s <;> rfl]
  exact this
end
end PL

/-! TY2: typed readings: statements, loops, defs. -/
namespace PL
open PySem PySem.Spec PyProof.Rows L2
def nrm : Fl × Env × D → Fl × Env × D
  | (.rt d, _, io) => (.rt d, [], io)
  | r => r
section
variable {α β γ δ ρ σ τ : Type} {env : Env} {io : D} {e : α → D} {e1 : α → D} {e2 : β → D} {e3 : γ → D} {er : ρ → D}
/-- goes on; returns; either -/
abbrev TA (env : Env) (io : D) (f : SS) (t : Option σ) (E : σ → Env) : Prop := f env io = t.map fun s => (.nx, E s, io)
abbrev TR (env : Env) (io : D) (f : SS) (e : ρ → D) (t : Option ρ) : Prop := (f env io).map nrm = t.map fun r => (.rt (e r), [], io)
abbrev emS (e : ρ → D) (E : σ → Env) (io : D) : ρ ⊕ σ → Fl × Env × D
  | .inl r => (.rt (e r), [], io)
  | .inr s => (.nx, E s, io)
abbrev TM (env : Env) (io : D) (f : SS) (e : ρ → D) (E : σ → Env) (t : Option (ρ ⊕ σ)) : Prop := (f env io).map nrm = t.map (emS e E io)

theorem ta {f : SS} {t : Option σ} {E E' : σ → Env} (h : TA env io f t E) (he : E = E') : TA env io f t E' := he ▸ h
theorem a_skip {E : σ → Env} (s : σ) (h : env = E s) : TA env io sSkip (some s) E := by rw [h]; rfl
theorem a_wipe {E : σ → Env} {ws : List Nat} (s : σ) (h : wipeE ws env = E s) : TA env io (sWipe ws) (some s) E := by
  show some (Fl.nx, wipeE ws env, io) = _
  rw [h]; rfl
theorem a_asg {f : XS} {b : BD} {E : α → Env} {s : Option α} (hf : TX env io f e s) (hb : ∀ a, b (e a) env = some (E a)) : TA env io (sAsg f b) s E := by
  show sAsg f b env io = _
  unfold sAsg
  rw [hf]
  cases s with
  | none => rfl
  | some a =>
    show (b (e a) env).map _ = _
    rw [hb]
    rfl
theorem a_new {f : XS} {i : Nat} {s : Option α} (hf : TX env io f e s) (hl : Nat.blt i env.length = true) : TA env io (sNew f i) s (fun a => env.set i (some (e a))) := by
  show sNew f i env io = _
  unfold sNew
  rw [hf]
  cases s with
  | none => rfl
  | some a =>
    show (if Nat.blt i env.length then _ else none) = _
    rw [hl]
    rfl
theorem a_drop {f : XS} {s : Option α} (hf : TX env io f e s) : TA env io (sDrop f) s (fun _ => env) := by
  show sDrop f env io = _
  unfold sDrop
  rw [hf]
  cases s <;> rfl
theorem a_par {f g : XS} {i j : Nat} {s : Option α} {t : Option β} (hf : TX env io f e1 s) (hg : TX env io g e2 t) : TA env io (sPar i j (xCons f (xCons g xNil))) (s.bind fun a => t.bind fun b => some (a, b)) (fun p => (env.set i (some (e1 p.1))).set j (some (e2 p.2))) := by
  show sPar i j _ env io = _
  unfold sPar
  rw [xCons_run hf, xCons_run hg, xNil_run]
  cases s with
  | none => rfl
  | some a => cases t <;> rfl
theorem a_par3 {f g h : XS} {i j l : Nat} {s : Option α} {t : Option β} {u : Option γ} (hf : TX env io f e1 s) (hg : TX env io g e2 t) (hh : TX env io h e3 u) : TA env io (sPar3 i j l (xCons f (xCons g (xCons h xNil)))) (s.bind fun a => t.bind fun b => u.bind fun c => some (a, b, c)) (fun p => ((env.set i (some (e1 p.1))).set j (some (e2 p.2.1))).set l (some (e3 p.2.2))) := by
  show sPar3 i j l _ env io = _
  unfold sPar3
  rw [xCons_run hf, xCons_run hg, xCons_run hh, xNil_run]
  cases s with
  | none => rfl
  | some a =>
    cases t with
    | none => rfl
    | some b => cases u <;> rfl
theorem a_parXN {f g : XS} {i j : Nat} {s : Option α} {t : Option β} (hf : TX env io f e1 s) (hg : TX env io g e2 t) (hl : Nat.blt j env.length = true) : TA env io (sParXN i j f g) (s.bind fun a => t.bind fun b => some (a, b)) (fun p => (env.set i (some (e1 p.1))).set j (some (e2 p.2))) := by
  show sParXN i j f g env io = _
  unfold sParXN
  rw [hf]
  cases s with
  | none => rfl
  | some a =>
    show (g env io).bind _ = _
    rw [hg]
    cases t with
    | none => rfl
    | some b =>
      show (if Nat.blt j env.length then _ else none) = _
      rw [hl]
      rfl
@[irreducible] def appO {α : Type} (xs : List α) (a : α) : Option (List α) := if Nat.blt xs.length 16777216 then some (xs ++ [a]) else none
@[irreducible] def catO {α : Type} (xs ys : List α) : Option (List α) := if szL (xs.length + ys.length) then some (xs ++ ys) else none
@[irreducible] def setO {α : Type} (xs : List α) (j : Int) (a : α) : Option (List α) := (ixN xs.length j).map fun m => xs.set m a
theorem a_app {f : XS} {i : Nat} {xs : List α} {s : Option α} (hf : TX env io f e s) (hi : env[i]? = some (some (eL e xs))) : TA env io (sApp i f) (s.bind fun a => appO xs a) (fun ys => env.set i (some (eL e ys))) := by
  show sApp i f env io = _
  unfold sApp
  rw [hf]
  cases s with
  | none => rfl
  | some a =>
    show (match env[i]? with
      | some (some (.lst ds)) => if Nat.blt ds.length 16777216 then some (Fl.nx, env.set i (some (.lst (ds ++ [e a]))), io) else none
      | _ => none) = _
    rw [hi]
    show (if Nat.blt (xs.map e).length 16777216 then some (Fl.nx, env.set i (some (.lst (xs.map e ++ [e a]))), io) else none) = (appO xs a).map _
    unfold appO
    rw [List.length_map]
    cases Nat.blt xs.length 16777216 with
    | true =>
      rw [if_pos rfl, if_pos rfl]
      show _ = some (Fl.nx, env.set i (some (D.lst ((xs ++ [a]).map e))), io)
      rw [List.map_append]
      rfl
    | false => rfl
theorem a_ext {f : XS} {i : Nat} {xs : List α} {s : Option (List α)} (hf : TX env io f (eL e) s) (hi : env[i]? = some (some (eL e xs))) : TA env io (sExt i f) (s.bind fun a => catO xs a) (fun ys => env.set i (some (eL e ys))) := by
  show sExt i f env io = _
  unfold sExt
  rw [hf]
  cases s with
  | none => rfl
  | some a =>
    show (match env[i]?, D.lst (a.map e) with
      | some (some (.lst ds)), .lst es => if szL (ds.length + es.length) then some (Fl.nx, env.set i (some (.lst (ds ++ es))), io) else none
      | _, _ => none) = _
    rw [hi]
    show (if szL ((xs.map e).length + (a.map e).length) then some (Fl.nx, env.set i (some (.lst (xs.map e ++ a.map e))), io) else none) = (catO xs a).map _
    unfold catO
    rw [List.length_map, List.length_map]
    cases szL (xs.length + a.length) with
    | true =>
      rw [if_pos rfl, if_pos rfl]
      show _ = some (Fl.nx, env.set i (some (D.lst ((xs ++ a).map e))), io)
      rw [List.map_append]
    | false => rfl
theorem a_setI {f g : XS} {i : Nat} {xs : List α} {s : Option α} {t : Option Int} (hf : TX env io f e s) (hg : TX env io g D.int t) (hi : env[i]? = some (some (eL e xs))) : TA env io (sSetI i f g) (s.bind fun a => t.bind fun j => setO xs j a) (fun ys => env.set i (some (eL e ys))) := by
  show sSetI i f g env io = _
  unfold sSetI
  rw [hf]
  cases s with
  | none => rfl
  | some a =>
    show (g env io).bind _ = _
    rw [hg]
    cases t with
    | none => rfl
    | some j =>
      show (match env[i]?, D.int j with
        | some (some (.lst ds)), .int j => (ixN ds.length j).map fun m => (Fl.nx, env.set i (some (.lst (ds.set m (e a)))), io)
        | _, _ => none) = _
      rw [hi]
      show ((ixN (xs.map e).length j).map fun m => (Fl.nx, env.set i (some (.lst ((xs.map e).set m (e a)))), io)) = (setO xs j a).map _
      unfold setO
      rw [List.length_map]
      cases ixN xs.length j with
      | none => rfl
      | some m =>
        show some (Fl.nx, env.set i (some (D.lst ((xs.map e).set m (e a)))), io) = some (Fl.nx, env.set i (some (D.lst ((xs.set m a).map e))), io)
        rw [List.map_set]

/-! ### returns, never, lifting -/
theorem r_ret {f : XS} {s : Option ρ} (hf : TX env io f er s) : TR env io (sRet f) er s := by
  show (sRet f env io).map nrm = _
  unfold sRet
  rw [hf]
  cases s <;> rfl
theorem r_retN : TR env io sRetN eN (some ()) := rfl
theorem a_never {E : σ → Env} : TA env io sNever (none : Option σ) E := rfl
theorem r_never : TR env io sNever er (none : Option ρ) := rfl
theorem nrm_nx {x : Env} {io : D} : nrm (.nx, x, io) = (.nx, x, io) := rfl
theorem a_m {f : SS} {E : σ → Env} {t : Option σ} (h : TA env io f t E) : TM env io f er E (t.map .inr) := by
  show (f env io).map nrm = _
  rw [h]
  cases t <;> rfl
theorem r_m {f : SS} {E : σ → Env} {t : Option ρ} (h : TR env io f er t) : TM env io f er E (t.map .inl) := by
  show (f env io).map nrm = _
  rw [h]
  cases t <;> rfl
theorem r_raw {f : SS} {t : Option ρ} (h : TR env io f er t) : TR env io f eR (t.map er) := by
  show (f env io).map nrm = _
  rw [h]
  cases t <;> rfl
/-! ### one behind the other -/
theorem seq_nx {f g : SS} {x : Env} (h : f env io = some (.nx, x, io)) : sSeq f g env io = g x io := by
  unfold sSeq
  rw [h]
  rfl
theorem q_aa {f g : SS} {E : σ → Env} {E' : τ → Env} {s : Option σ} {t : σ → Option τ} (hf : TA env io f s E) (hg : ∀ x, TA (E x) io g (t x) E') : TA env io (sSeq f g) (s.bind t) E' := by
  cases s with
  | none =>
    show sSeq f g env io = none
    unfold sSeq
    rw [hf]
    rfl
  | some x => exact (seq_nx hf).trans (hg x)
theorem q_ar {f g : SS} {E : σ → Env} {s : Option σ} {t : σ → Option ρ} (hf : TA env io f s E) (hg : ∀ x, TR (E x) io g er (t x)) : TR env io (sSeq f g) er (s.bind t) := by
  cases s with
  | none =>
    show (sSeq f g env io).map nrm = none
    unfold sSeq
    rw [hf]
    rfl
  | some x =>
    show (sSeq f g env io).map nrm = _
    rw [seq_nx hf]
    exact hg x
theorem q_am {f g : SS} {E : σ → Env} {E' : τ → Env} {s : Option σ} {t : σ → Option (ρ ⊕ τ)} (hf : TA env io f s E) (hg : ∀ x, TM (E x) io g er E' (t x)) : TM env io (sSeq f g) er E' (s.bind t) := by
  cases s with
  | none =>
    show (sSeq f g env io).map nrm = none
    unfold sSeq
    rw [hf]
    rfl
  | some x =>
    show (sSeq f g env io).map nrm = _
    rw [seq_nx hf]
    exact hg x
theorem nrm_rt {r : Fl × Env × D} {d : D} {io : D} (h : nrm r = (.rt d, [], io)) : ∃ x, r = (.rt d, x, io) := by
  obtain ⟨fl, x, i⟩ := r
  cases fl with
  | rt d' => cases h; exact ⟨x, rfl⟩
  | nx => cases h
  | bk => cases h
  | ct => cases h
theorem nrm_nxI {r : Fl × Env × D} {x : Env} {io : D} (h : nrm r = (.nx, x, io)) : r = (.nx, x, io) := by
  obtain ⟨fl, y, i⟩ := r
  cases fl with
  | rt d' => cases h
  | nx => exact h
  | bk => cases h
  | ct => cases h
/-- what a statement that may return has come to -/
theorem tm_cases {f : SS} {E : σ → Env} {s : Option (ρ ⊕ σ)} (hf : TM env io f er E s) : (s = none ∧ f env io = none) ∨ (∃ r x, s = some (.inl r) ∧ f env io = some (.rt (er r), x, io)) ∨ ∃ x, s = some (.inr x) ∧ f env io = some (.nx, E x, io) := by
  have hf : (f env io).map nrm = s.map (emS er E io) := hf
  cases h : f env io with
  | none =>
    rw [h] at hf
    cases s with
    | none => exact .inl ⟨rfl, rfl⟩
    | some _ => cases hf
  | some r =>
    rw [h] at hf
    cases s with
    | none => cases hf
    | some s =>
      have hf : nrm r = emS er E io s := Option.some.inj hf
      cases s with
      | inl a =>
        obtain ⟨x, rfl⟩ := nrm_rt hf
        exact .inr (.inl ⟨a, x, rfl, rfl⟩)
      | inr a => exact .inr (.inr ⟨a, rfl, by rw [nrm_nxI hf]⟩)
theorem seq_rt {f g : SS} {x : Env} {d : D} (h : f env io = some (.rt d, x, io)) : sSeq f g env io = some (.rt d, x, io) := by
  unfold sSeq
  rw [h]
  rfl
theorem seq_none {f g : SS} (h : f env io = none) : sSeq f g env io = none := by
  unfold sSeq
  rw [h]
  rfl
def orR {ρ σ : Type} (s : Option (ρ ⊕ σ)) (t : σ → Option ρ) : Option ρ := s.bind fun r => match r with
  | .inl r => some r
  | .inr x => t x
def orM {ρ σ τ : Type} (s : Option (ρ ⊕ σ)) (t : σ → Option (ρ ⊕ τ)) : Option (ρ ⊕ τ) := s.bind fun r => match r with
  | .inl r => some (.inl r)
  | .inr x => t x
theorem q_mr {f g : SS} {E : σ → Env} {s : Option (ρ ⊕ σ)} {t : σ → Option ρ} (hf : TM env io f er E s) (hg : ∀ x, TR (E x) io g er (t x)) : TR env io (sSeq f g) er (orR s t) := by
  show (sSeq f g env io).map nrm = _
  rcases tm_cases hf with ⟨rfl, h⟩ | ⟨r, x, rfl, h⟩ | ⟨x, rfl, h⟩
  · rw [seq_none h]; rfl
  · rw [seq_rt h]; rfl
  · rw [seq_nx h]; exact hg x
theorem q_mm {f g : SS} {E : σ → Env} {E' : τ → Env} {s : Option (ρ ⊕ σ)} {t : σ → Option (ρ ⊕ τ)} (hf : TM env io f er E s) (hg : ∀ x, TM (E x) io g er E' (t x)) : TM env io (sSeq f g) er E' (orM s t) := by
  show (sSeq f g env io).map nrm = _
  rcases tm_cases hf with ⟨rfl, h⟩ | ⟨r, x, rfl, h⟩ | ⟨x, rfl, h⟩
  · rw [seq_none h]; rfl
  · rw [seq_rt h]; rfl
  · rw [seq_nx h]; exact hg x
theorem q_ma {f g : SS} {E : σ → Env} {E' : τ → Env} {s : Option (ρ ⊕ σ)} {t : σ → Option τ} (hf : TM env io f er E s) (hg : ∀ x, TA (E x) io g (t x) E') : TM env io (sSeq f g) er E' (orM s fun x => (t x).map .inr) := q_mm hf fun x => a_m (hg x)
theorem q_r0 {f g : SS} {s : Option ρ} (hf : TR env io f er s) : TR env io (sSeq f g) er s := by
  have hf : (f env io).map nrm = s.map fun r => (.rt (er r), [], io) := hf
  show (sSeq f g env io).map nrm = _
  cases h : f env io with
  | none => rw [seq_none h, ← hf, h]
  | some r =>
    rw [h] at hf
    cases s with
    | none => cases hf
    | some a =>
      obtain ⟨x, rfl⟩ := nrm_rt (Option.some.inj hf)
      rw [seq_rt h]
      rfl
/-! ### if -/
theorem i_a {c : BS} {f g : SS} {E : σ → Env} {s : Option Bool} {t u : Option σ} (hc : TB env io c s) (hf : TA env io f t E) (hg : TA env io g u E) : TA env io (sIf c f g) (s.bind fun a => if a then t else u) E := by
  show sIf c f g env io = _
  unfold sIf
  rw [hc]
  cases s with
  | none => rfl
  | some a =>
    cases a with
    | true => exact hf
    | false => exact hg
theorem i_r {c : BS} {f g : SS} {s : Option Bool} {t u : Option ρ} (hc : TB env io c s) (hf : TR env io f er t) (hg : TR env io g er u) : TR env io (sIf c f g) er (s.bind fun a => if a then t else u) := by
  show (sIf c f g env io).map nrm = _
  unfold sIf
  rw [hc]
  cases s with
  | none => rfl
  | some a =>
    cases a with
    | true => exact hf
    | false => exact hg
theorem i_m {c : BS} {f g : SS} {E : σ → Env} {s : Option Bool} {t u : Option (ρ ⊕ σ)} (hc : TB env io c s) (hf : TM env io f er E t) (hg : TM env io g er E u) : TM env io (sIf c f g) er E (s.bind fun a => if a then t else u) := by
  show (sIf c f g env io).map nrm = _
  unfold sIf
  rw [hc]
  cases s with
  | none => rfl
  | some a =>
    cases a with
    | true => exact hf
    | false => exact hg
theorem i_ap {c : BS} {f g : SS} {E : σ → Env} {a : Bool} {t u : Option σ} (hc : TB env io c (some a)) (hf : TA env io f t E) (hg : TA env io g u E) : TA env io (sIf c f g) (if a then t else u) E := i_a hc hf hg
theorem i_rp {c : BS} {f g : SS} {a : Bool} {t u : Option ρ} (hc : TB env io c (some a)) (hf : TR env io f er t) (hg : TR env io g er u) : TR env io (sIf c f g) er (if a then t else u) := i_r hc hf hg
theorem i_mp {c : BS} {f g : SS} {E : σ → Env} {a : Bool} {t u : Option (ρ ⊕ σ)} (hc : TB env io c (some a)) (hf : TM env io f er E t) (hg : TM env io g er E u) : TM env io (sIf c f g) er E (if a then t else u) := i_m hc hf hg
/-! ### for -/
def foldO {σ α : Type} (step : σ → α → Option σ) : σ → List α → Option σ
  | s, [] => some s
  | s, a :: as => (step s a).bind fun s' => foldO step s' as
def foldR {ρ σ α : Type} (step : σ → α → Option (ρ ⊕ σ)) : σ → List α → Option (ρ ⊕ σ)
  | s, [] => some (.inr s)
  | s, a :: as => orM (step s a) fun s' => foldR step s' as
theorem f_a {src : XLS} {b : BD} {body : SS} {ws : List Nat} {E : σ → Env} {s0 : σ} (E1 : σ → α → Env) {step : σ → α → Option σ} {xs : Option (List α)} (hs : TS env io src e xs) (h0 : wipeE ws env = E s0) (hw : ∀ s, wipeE ws (E s) = E s)
    (hb : ∀ s a, b (e a) (E s) = some (E1 s a)) (hbody : ∀ s a, TA (E1 s a) io body (step s a) E) : TA env io (sFor src b body ws) (xs.bind fun as => foldO step s0 as) E := by
  have key : ∀ (as : List α) (s : σ), forL b body ws (as.map e) (E s) io = (foldO step s as).map fun s => (.nx, E s, io) := by
    intro as
    induction as with
    | nil => intro s; rfl
    | cons a as ih =>
      intro s
      rw [List.map_cons, forL, hb]
      show (body (E1 s a) io).bind _ = ((step s a).bind _).map _
      rw [hbody]
      cases step s a with
      | none => rfl
      | some s' =>
        show forL b body ws (as.map e) (wipeE ws (E s')) io = _
        rw [hw]
        exact ih s'
  show sFor src b body ws env io = _
  unfold sFor
  rw [hs]
  cases xs with
  | none => rfl
  | some as =>
    show forL b body ws (as.map e) (wipeE ws env) io = _
    rw [h0]
    exact key as s0
theorem f_m {src : XLS} {b : BD} {body : SS} {ws : List Nat} {E : σ → Env} {s0 : σ} (E1 : σ → α → Env) {step : σ → α → Option (ρ ⊕ σ)} {xs : Option (List α)} (hs : TS env io src e xs) (h0 : wipeE ws env = E s0) (hw : ∀ s, wipeE ws (E s) = E s)
    (hb : ∀ s a, b (e a) (E s) = some (E1 s a)) (hbody : ∀ s a, TM (E1 s a) io body er E (step s a)) : TM env io (sFor src b body ws) er E (xs.bind fun as => foldR step s0 as) := by
  have key : ∀ (as : List α) (s : σ), (forL b body ws (as.map e) (E s) io).map nrm = (foldR step s as).map (emS er E io) := by
    intro as
    induction as with
    | nil => intro s; rfl
    | cons a as ih =>
      intro s
      rw [List.map_cons, forL, hb]
      show ((body (E1 s a) io).bind _).map nrm = (orM (step s a) fun s' => foldR step s' as).map _
      rcases tm_cases (hbody s a) with ⟨h1, h⟩ | ⟨r, x, h1, h⟩ | ⟨x, h1, h⟩
      · rw [h, h1]; rfl
      · rw [h, h1]; rfl
      · rw [h, h1]
        show (forL b body ws (as.map e) (wipeE ws (E x)) io).map nrm = _
        rw [hw]
        exact ih x
  show (sFor src b body ws env io).map nrm = _
  unfold sFor
  rw [hs]
  cases xs with
  | none => rfl
  | some as =>
    show (forL b body ws (as.map e) (wipeE ws env) io).map nrm = _
    rw [h0]
    exact key as s0
/-! ### defs -/
theorem fn_r {n m : Nat} {body : SS} {ds : List D} {t : Option ρ} (hl : (ds.length == n) = true) (h : TR (env0 n m ds) .non body er t) : fnP n m body ds = t.map er := by
  have h : (body (env0 n m ds) .non).map nrm = t.map fun r => (.rt (er r), [], .non) := h
  unfold fnP
  rw [hl, if_pos rfl]
  cases h1 : body (env0 n m ds) .non with
  | none =>
    rw [h1] at h
    cases t with
    | none => rfl
    | some _ => cases h
  | some r =>
    rw [h1] at h
    cases t with
    | none => cases h
    | some a =>
      obtain ⟨x, rfl⟩ := nrm_rt (Option.some.inj h)
      rfl
theorem fn_a {n m : Nat} {body : SS} {ds : List D} {E : σ → Env} {t : Option σ} (hl : (ds.length == n) = true) (h : TA (env0 n m ds) .non body t E) : fnP n m body ds = (t.map fun _ => ()).map eN := by
  unfold fnP
  rw [hl, if_pos rfl, h]
  cases t <;> rfl
end
end PL

/-! TY3: typed readings: operators, built-ins. -/
namespace PL
open PySem PySem.Spec PyProof.Rows L2
section
variable {α β γ δ ρ σ τ : Type} {env : Env} {io : D} {e : α → D} {e1 : α → D} {e2 : β → D} {e3 : γ → D}
/-! ### ints -/
theorem o_add (a b : Int) : addA (.int a) (.int b) = (some (a + b)).map D.int := rfl
theorem o_sub (a b : Int) : subI (.int a) (.int b) = (some (a - b)).map D.int := rfl
def small64 (i : Int) : Bool := decide (-(2 ^ 64) < i) && decide (i < 2 ^ 64)
@[irreducible] def mulO (a b : Int) : Option Int := if small64 a || small64 b then some (a * b) else none
theorem o_mul (a b : Int) : mulA (.int a) (.int b) = (mulO a b).map D.int := by
  unfold mulA mulO
  show (if ((decide (-(2 ^ 64) < a) && decide (a < 2 ^ 64)) || (decide (-(2 ^ 64) < b) && decide (b < 2 ^ 64))) = true then some (D.int (a * b)) else none).or none = (if (small64 a || small64 b) = true then some (a * b) else none).map D.int
  unfold small64
  cases (decide (-(2 ^ 64) < a) && decide (a < 2 ^ 64)) || (decide (-(2 ^ 64) < b) && decide (b < 2 ^ 64)) <;> rfl
@[irreducible] def fdivO (a b : Int) : Option Int := if decide (0 < b) && decide (b < 1073741824) then some (a / b) else none
theorem o_fdiv (a b : Int) : fdivI (.int a) (.int b) = (fdivO a b).map D.int := by
  show (if (decide (0 < b) && decide (b < 1073741824)) = true then some (D.int (a / b)) else none) = (fdivO a b).map D.int
  unfold fdivO
  cases decide (0 < b) && decide (b < 1073741824) <;> rfl
@[irreducible] def modO (a b : Int) : Option Int := if decide (0 < b) then some (a % b) else none
theorem o_mod (a b : Int) : modI (.int a) (.int b) = (modO a b).map D.int := by
  show (if (decide (0 < b)) = true then some (D.int (a % b)) else none) = (modO a b).map D.int
  unfold modO
  cases decide (0 < b) <;> rfl
@[irreducible] def powO (a b : Int) : Option Int := if decide (0 ≤ b) && (decide (b ≤ 1000000) && decide (a.natAbs < 2 ^ 64)) then some (a ^ b.toNat) else none
theorem o_pow (a b : Int) : powI (.int a) (.int b) = (powO a b).map D.int := by
  show (if (decide (0 ≤ b) && (decide (b ≤ 1000000) && decide (a.natAbs < 2 ^ 64))) = true then some (D.int (a ^ b.toNat)) else none) = (powO a b).map D.int
  unfold powO
  cases decide (0 ≤ b) && (decide (b ≤ 1000000) && decide (a.natAbs < 2 ^ 64)) <;> rfl
theorem o_neg (a : Int) : negI (.int a) = (some (-a)).map D.int := rfl
theorem o_lt (a b : Int) : ltI (.int a) (.int b) = (some (decide (a < b))).map D.bl := rfl
theorem o_le (a b : Int) : leI (.int a) (.int b) = (some (decide (a ≤ b))).map D.bl := rfl
theorem o_gt (a b : Int) : gtI (.int a) (.int b) = (some (decide (b < a))).map D.bl := rfl
theorem o_ge (a b : Int) : geI (.int a) (.int b) = (some (decide (b ≤ a))).map D.bl := rfl
theorem c_lt (a b : Int) : ltI (.int a) (.int b) = some (.bl (decide (a < b))) := rfl
theorem c_le (a b : Int) : leI (.int a) (.int b) = some (.bl (decide (a ≤ b))) := rfl
theorem c_gt (a b : Int) : gtI (.int a) (.int b) = some (.bl (decide (b < a))) := rfl
theorem c_ge (a b : Int) : geI (.int a) (.int b) = some (.bl (decide (b ≤ a))) := rfl
/-! ### sequences -/
theorem catO_map {g : List D → D} {xs ys : List α} : (if szL ((xs.map e).length + (ys.map e).length) then some (g (xs.map e ++ ys.map e)) else none) = (catO xs ys).map fun zs => g (zs.map e) := by
  unfold catO
  rw [List.length_map, List.length_map, ← List.map_append]
  cases szL (xs.length + ys.length) <;> rfl
theorem o_addL (xs ys : List α) : addA (eL e xs) (eL e ys) = (catO xs ys).map (eL e) := by
  show ((if szL ((xs.map e).length + (ys.map e).length) then some (D.lst (xs.map e ++ ys.map e)) else none).or none) = _
  rw [catO_map (g := D.lst)]
  cases catO xs ys <;> rfl
theorem o_addLN (xs ys : List α) : addL (eL e xs) (eL e ys) = (catO xs ys).map (eL e) := by
  show (if szL ((xs.map e).length + (ys.map e).length) then some (D.lst (xs.map e ++ ys.map e)) else none) = _
  rw [catO_map (g := D.lst)]
theorem o_addT (xs ys : List α) : addA (eT e xs) (eT e ys) = (catO xs ys).map (eT e) := by
  show (if szL ((xs.map e).length + (ys.map e).length) then some (D.tup (xs.map e ++ ys.map e)) else none) = _
  rw [catO_map (g := D.tup)]
@[irreducible] def repO {α : Type} (xs : List α) (k : Int) : Option (List α) := if small62 k && szL (xs.length * k.toNat) then some (List.replicate k.toNat xs).flatten else none
theorem rep_map (xs : List α) : ∀ n : Nat, (List.replicate n (xs.map e)).flatten = ((List.replicate n xs).flatten).map e
  | 0 => rfl
  | n + 1 => by
    rw [List.replicate_succ, List.replicate_succ, List.flatten_cons, List.flatten_cons, List.map_append, rep_map xs n]
theorem o_repLN (xs : List α) (k : Int) : repL (eL e xs) (.int k) = (repO xs k).map (eL e) := by
  show (if (small62 k && szL ((xs.map e).length * k.toNat)) = true then some (D.lst (List.replicate k.toNat (xs.map e)).flatten) else none) = _
  unfold repO
  rw [List.length_map, rep_map]
  cases small62 k && szL (xs.length * k.toNat) <;> rfl
theorem o_repL (xs : List α) (k : Int) : mulA (eL e xs) (.int k) = (repO xs k).map (eL e) := by
  show ((repL (eL e xs) (.int k)).or none) = _
  rw [o_repLN]
  cases repO xs k <;> rfl
@[irreducible] def repTO {α : Type} (xs : List α) (k : Int) : Option (List α) := if decide (2 ≤ k) && (decide (k ≤ 1000) && (Nat.ble xs.length 1000 && Nat.blt 0 xs.length)) then some (List.replicate k.toNat xs).flatten else none
theorem o_repT (xs : List α) (k : Int) : mulA (eT e xs) (.int k) = (repTO xs k).map (eT e) := by
  show (if (decide (2 ≤ k) && (decide (k ≤ 1000) && (Nat.ble (xs.map e).length 1000 && Nat.blt 0 (xs.map e).length))) = true then some (D.tup (List.replicate k.toNat (xs.map e)).flatten) else none) = _
  unfold repTO
  rw [List.length_map, rep_map]
  cases decide (2 ≤ k) && (decide (k ≤ 1000) && (Nat.ble xs.length 1000 && Nat.blt 0 xs.length)) <;> rfl
theorem atI_map (xs : List α) (i : Int) : atI (xs.map e) i = (atI xs i).map e := by
  unfold atI
  rw [List.length_map]
  cases ixN xs.length i with
  | none => rfl
  | some j =>
    show (xs.map e)[j]? = (xs[j]?).map e
    rw [List.getElem?_map]
theorem o_ixL (xs : List α) (i : Int) : ixD (eL e xs) (.int i) = (atI xs i).map e := atI_map xs i
theorem o_ixT (xs : List α) (i : Int) : ixD (eT e xs) (.int i) = (atI xs i).map e := atI_map xs i
theorem o_ixK (xs : List α) (i : Int) : ixD (eK e xs) (.int i) = (atI xs i).map e := atI_map xs i
theorem t_pr {f : XS} {k : Int} {s : Option α} {pr : α → β} (hf : TX env io f e1 s) (h : ∀ a, ixD (e1 a) (.int k) = some (e2 (pr a))) : TX env io (x2 ixD f (xC (.int k))) e2 (s.map pr) := by
  show x2 ixD f _ env io = _
  unfold x2
  rw [hf]
  cases s with
  | none => rfl
  | some a =>
    show (ixD (e1 a) (.int k)).map _ = _
    rw [h]
    rfl
theorem t_prp {f : XS} {k : Int} {a : α} {pr : α → β} (hf : TX env io f e1 (some a)) (h : ∀ a, ixD (e1 a) (.int k) = some (e2 (pr a))) : TX env io (x2 ixD f (xC (.int k))) e2 (some (pr a)) := t_pr hf h
theorem o_revL (xs : List α) : revD (eL e xs) = (some xs.reverse).map (eL e) := by
  show some (D.lst (xs.map e).reverse) = some (D.lst (xs.reverse.map e))
  rw [List.map_reverse]
/-! ### built-ins -/
theorem o_lenL (xs : List α) : lenA [eL e xs] = (some (xs.length : Int)).map D.int := by
  show some (D.int ((xs.map e).length : Nat)) = _
  rw [List.length_map]
  rfl
theorem o_lenT (xs : List α) : lenA [eT e xs] = (some (xs.length : Int)).map D.int := by
  show some (D.int ((xs.map e).length : Nat)) = _
  rw [List.length_map]
  rfl
theorem o_lenDI (xs : List (Int × α)) : lenA [eDI e xs] = (some (xs.length : Int)).map D.int := by
  show some (D.int ((xs.map fun p => (D.int p.1, e p.2)).length : Nat)) = _
  rw [List.length_map]
  rfl
theorem o_toInt (a : Int) : op1 intD [.int a] = (some a).map D.int := rfl
theorem o_toIntB (a : Bool) : op1 intD [.bl a] = (some (if a then 1 else 0)).map D.int := rfl
theorem o_abs (a : Int) : op1 absD [.int a] = (some (if a < 0 then -a else a)).map D.int := rfl
theorem o_tupL (xs : List α) : op1 tupleD [eL e xs] = (some xs).map (eT e) := rfl
theorem o_tupT (xs : List α) : op1 tupleD [eT e xs] = (some xs).map (eT e) := rfl
theorem o_lstL (xs : List α) : op1 listD [eL e xs] = (some xs).map (eL e) := rfl
theorem o_lstT (xs : List α) : op1 listD [eT e xs] = (some xs).map (eL e) := rfl
theorem blsD_map : ∀ bs : List Bool, blsD (bs.map D.bl) = some bs
  | [] => rfl
  | b :: bs => by rw [List.map_cons, blsD, blsD_map bs]; rfl
theorem intsD_map : ∀ bs : List Int, intsD (bs.map D.int) = some bs
  | [] => rfl
  | b :: bs => by rw [List.map_cons, intsD, intsD_map bs]; rfl
theorem o_all (xs : List Bool) : op1 allD [eL D.bl xs] = (some (xs.all id)).map D.bl := by
  show (blsD (xs.map D.bl)).map _ = _
  rw [blsD_map]; rfl
theorem o_any (xs : List Bool) : anyA [eL D.bl xs] = (some (xs.any id)).map D.bl := by
  show ((blsD (xs.map D.bl)).map fun ns => D.bl (ns.any id)).or none = _
  rw [blsD_map]; rfl
theorem o_anyT (xs : List Int) : anyA [eT D.int xs] = (some (xs.any fun n => n != 0)).map D.bl := by
  show ((intsD (xs.map D.int)).map fun ns => D.bl (ns.any fun n => n != 0)) = _
  rw [intsD_map]; rfl
theorem o_sum (xs : List Int) : op1 sumD [eL D.int xs] = (some xs.sum).map D.int := by
  show (intsD (xs.map D.int)).map _ = _
  rw [intsD_map]; rfl
theorem o_min (xs : List Int) : op1 minD [eL D.int xs] = (minL xs).map D.int := by
  show (intsD (xs.map D.int)).bind _ = _
  rw [intsD_map]; rfl
@[irreducible] def lenSetO (xs : List Int) : Option Int := if ndI xs && Nat.ble xs.length 4000 then some (xs.length : Int) else none
theorem o_lenSet (xs : List Int) : lenSetD (eL D.int xs) = (lenSetO xs).map D.int := by
  show (intsD (xs.map D.int)).bind _ = _
  rw [intsD_map]
  show (if (ndI xs && Nat.ble xs.length 4000) = true then some (D.int xs.length) else none) = _
  unfold lenSetO
  cases ndI xs && Nat.ble xs.length 4000 <;> rfl
/-! ### isinstance -/
theorem kit_ii : kitB "int" "int" = some true := by decide +kernel
theorem kit_ib : kitB "int" "bool" = some false := by decide +kernel
theorem kit_bi : kitB "bool" "int" = some true := by decide +kernel
theorem kit_bb : kitB "bool" "bool" = some true := by decide +kernel
theorem kit_ll : kitB "list" "list" = some true := by decide +kernel
theorem kit_tl : kitB "tuple" "list" = some false := by decide +kernel
theorem kit_tt : kitB "tuple" "tuple" = some true := by decide +kernel
theorem isi_int_int (a : Int) : isiD "int" (.int a) = (some true).map D.bl := by show (kitB "int" "int").map D.bl = _; rw [kit_ii]
theorem isi_bool_int (a : Int) : isiD "bool" (.int a) = (some false).map D.bl := by show (kitB "int" "bool").map D.bl = _; rw [kit_ib]
theorem isi_int_bl (a : Bool) : isiD "int" (.bl a) = (some true).map D.bl := by show (kitB "bool" "int").map D.bl = _; rw [kit_bi]
theorem isi_bool_bl (a : Bool) : isiD "bool" (.bl a) = (some true).map D.bl := by show (kitB "bool" "bool").map D.bl = _; rw [kit_bb]
theorem isi2_lt_L (xs : List α) : isi2D "list" "tuple" (eL e xs) = (some true).map D.bl := by show ((kitB "list" "list").bind fun a => if a then some (D.bl true) else (kitB "list" "tuple").map .bl) = _; rw [kit_ll]; rfl
theorem isi2_lt_D (ds : List D) : isi2D "list" "tuple" (.tup ds) = (some true).map D.bl := by show ((kitB "tuple" "list").bind fun a => if a then some (D.bl true) else (kitB "tuple" "tuple").map .bl) = _; rw [kit_tl, kit_tt]; rfl
theorem isi2_lt_T (xs : List α) : isi2D "list" "tuple" (eT e xs) = (some true).map D.bl := isi2_lt_D _
end
/-! ### == -/
/-- the things of a kind are told apart by == as they are by = -/
structure EqOk {α : Type} [DecidableEq α] (n : Nat) (e : α → D) (py : α → PyData) : Prop where
  to : ∀ a, toPy (e a) = some (py a)
  lay : ∀ a, PyData.canLay0 (py a) = true
  dep : ∀ a, (py a).depth ≤ n
  eqv : ∀ a b, PyData.eqv (py a) (py b) = decide (a = b)
section
variable {α β : Type} [DecidableEq α] [DecidableEq β] {n m : Nat} {e : α → D} {e2 : β → D} {py : α → PyData} {py2 : β → PyData}
theorem eq_int : EqOk 0 D.int PyData.int := ⟨fun a => by rw [toPy], fun a => by rw [PyData.canLay0], fun a => by rw [PyData.depth]; exact Nat.le_refl _, fun a b => by
  rw [PyData.eqv]
  by_cases h : a = b <;> simp [h]⟩
theorem eq_bl : EqOk 0 D.bl PyData.bool := ⟨fun a => by rw [toPy], fun a => by rw [PyData.canLay0], fun a => by rw [PyData.depth]; exact Nat.le_refl _, fun a b => by
  rw [PyData.eqv]
  by_cases h : a = b <;> simp [h]⟩
theorem toPyL_map (h : EqOk n e py) : ∀ xs : List α, toPyL (xs.map e) = some (xs.map py)
  | [] => by rw [List.map_nil, toPyL]; rfl
  | x :: xs => by rw [List.map_cons, toPyL, h.to, toPyL_map h xs]; rfl
theorem lay_map (h : EqOk n e py) : ∀ xs : List α, PyData.canLayAll0 (xs.map py) = true
  | [] => by rw [List.map_nil, PyData.canLayAll0]
  | x :: xs => by rw [List.map_cons, PyData.canLayAll0, h.lay, lay_map h xs]; rfl
theorem dep_map (h : EqOk n e py) : ∀ xs : List α, PyData.depthAll (xs.map py) ≤ n
  | [] => by rw [List.map_nil, PyData.depthAll]; exact Nat.zero_le _
  | x :: xs => by
    rw [List.map_cons, PyData.depthAll]
    exact Nat.max_le.mpr ⟨h.dep x, dep_map h xs⟩
theorem eqv_map (h : EqOk n e py) : ∀ xs ys : List α, PyData.eqvAll (xs.map py) (ys.map py) = decide (xs = ys)
  | [], [] => by simp [PyData.eqvAll]
  | [], _ :: _ => by simp [PyData.eqvAll]
  | _ :: _, [] => by simp [PyData.eqvAll]
  | x :: xs, y :: ys => by
    rw [List.map_cons, List.map_cons, PyData.eqvAll, h.eqv, eqv_map h xs ys]
    by_cases h1 : x = y <;> by_cases h2 : xs = ys <;> simp [h1, h2]
theorem eq_L (h : EqOk n e py) : EqOk (n + 1) (eL e) (fun xs => PyData.list (xs.map py)) := ⟨fun xs => by rw [toPy, toPyL_map h]; rfl, fun xs => by rw [PyData.canLay0, lay_map h], fun xs => by
  rw [PyData.depth]
  exact Nat.succ_le_succ (dep_map h xs), fun xs ys => by rw [PyData.eqv, eqv_map h]⟩
theorem eq_T (h : EqOk n e py) : EqOk (n + 1) (eT e) (fun xs => PyData.tuple (xs.map py)) := ⟨fun xs => by rw [toPy, toPyL_map h]; rfl, fun xs => by rw [PyData.canLay0, lay_map h], fun xs => by
  rw [PyData.depth]
  exact Nat.succ_le_succ (dep_map h xs), fun xs ys => by rw [PyData.eqv, eqv_map h]⟩
theorem eq_P2 (h : EqOk n e py) (h2 : EqOk m e2 py2) : EqOk (max n m + 1) (eP2 e e2) (fun p => PyData.tuple [py p.1, py2 p.2]) := ⟨fun p => by rw [toPy, toPyL, h.to, toPyL, h2.to, toPyL]; rfl, fun p => by rw [PyData.canLay0, PyData.canLayAll0, h.lay, PyData.canLayAll0, h2.lay, PyData.canLayAll0]; rfl, fun p => by
  rw [PyData.depth, PyData.depthAll, PyData.depthAll, PyData.depthAll]
  have h3 := h.dep p.1
  have h4 := h2.dep p.2
  omega, fun p q => by
  rw [PyData.eqv, PyData.eqvAll, PyData.eqvAll, PyData.eqvAll, h.eqv, h2.eqv]
  obtain ⟨a, b⟩ := p
  obtain ⟨c, d⟩ := q
  by_cases h1 : a = c <;> by_cases h2 : b = d <;> simp [h1, h2]⟩
theorem eqB_of (h : EqOk n e py) (hn : n ≤ 64) (a b : α) : eqB (e a) (e b) = some (decide (a = b)) := by
  unfold eqB
  rw [h.to, h.to]
  have sh : ∀ x, SeqAt.shaped (py x) = true := fun x => by
    unfold SeqAt.shaped
    rw [h.lay, decide_eq_true (Nat.le_trans (h.dep x) hn)]
    rfl
  show (if (SeqAt.shaped (py a) && SeqAt.shaped (py b)) = true then some (PyData.eqv (py a) (py b)) else none) = _
  rw [sh, sh, h.eqv]
  rfl
theorem o_eq (h : EqOk n e py) (hn : n ≤ 64 := by decide) (a b : α) : eqD (e a) (e b) = (some (decide (a = b))).map D.bl := by
  unfold eqD
  rw [eqB_of h hn]
theorem o_ne (h : EqOk n e py) (hn : n ≤ 64 := by decide) (a b : α) : neD (e a) (e b) = (some (!decide (a = b))).map D.bl := by
  unfold neD
  rw [eqB_of h hn]
  rfl
end
/-- == of raw data -/
theorem o_eqR (a b : D) : eqD a b = (eqB a b).map D.bl := rfl
theorem o_neR (a b : D) : neD a b = ((eqB a b).map not).map D.bl := by
  unfold neD
  cases eqB a b <;> rfl
/-! ### in -/
theorem inV_ints (a : Int) : ∀ xs : List Int, inV (.int a) ((xs.map D.int).map flV) = xs.any fun y => decide (y = a)
  | [] => rfl
  | x :: xs => by
    have ih := inV_ints a xs
    unfold inV at ih ⊢
    rw [List.map_cons, List.map_cons, List.any_cons, List.any_cons, ih]
    show ((x == a) || _) = _
    by_cases h : x = a <;> simp [h]
theorem flat_ints : ∀ xs : List Int, (xs.map D.int).all flatD = true
  | [] => rfl
  | x :: xs => by rw [List.map_cons, List.all_cons, flat_ints xs]; rfl
theorem inB_ints {l : D} (xs : List Int) (h : itemsK l = some (xs.map D.int)) (a : Int) : inB (.int a) l = some (xs.any fun y => decide (y = a)) := by
  unfold inB
  rw [h]
  show (if (flatD (.int a) && (xs.map D.int).all flatD) = true then some (inV (.int a) ((xs.map D.int).map flV)) else none) = _
  rw [flat_ints, inV_ints]
  rfl
theorem o_inL (a : Int) (xs : List Int) : inD (.int a) (eL D.int xs) = (some (xs.any fun y => decide (y = a))).map D.bl := by
  unfold inD; rw [inB_ints xs rfl]
theorem o_inT (a : Int) (xs : List Int) : inD (.int a) (eT D.int xs) = (some (xs.any fun y => decide (y = a))).map D.bl := by
  unfold inD; rw [inB_ints xs rfl]
theorem o_inK (a : Int) (xs : List Int) : inD (.int a) (eK D.int xs) = (some (xs.any fun y => decide (y = a))).map D.bl := by
  unfold inD; rw [inB_ints xs rfl]
theorem o_notInL (a : Int) (xs : List Int) : notInD (.int a) (eL D.int xs) = (some (!xs.any fun y => decide (y = a))).map D.bl := by
  unfold notInD; rw [inB_ints xs rfl]; rfl
theorem o_notInT (a : Int) (xs : List Int) : notInD (.int a) (eT D.int xs) = (some (!xs.any fun y => decide (y = a))).map D.bl := by
  unfold notInD; rw [inB_ints xs rfl]; rfl
theorem o_notInK (a : Int) (xs : List Int) : notInD (.int a) (eK D.int xs) = (some (!xs.any fun y => decide (y = a))).map D.bl := by
  unfold notInD; rw [inB_ints xs rfl]; rfl
/-! ### owned things read -/
section
variable {α β : Type} {env : Env} {io : D} {e : α → D} {f : XS}
theorem t_ownIx {i : Nat} {g : XS} {xs : List α} {t : Option Int} (hfl : ∀ a, flatD (e a) = true) (hi : env[i]? = some (some (eL e xs))) (hg : TX env io g D.int t) : TX env io (x2O ixD i g) e (t.bind fun j => atI xs j) := by
  show x2O ixD i g env io = _
  unfold x2O
  rw [hg]
  cases t with
  | none => rfl
  | some j =>
    show (match env[i]? with
      | some (some a) => (ixD a (.int j)).bind fun c => if flatD c then some (c, io) else none
      | _ => none) = (atI xs j).map _
    rw [hi]
    show (ixD (eL e xs) (.int j)).bind _ = _
    rw [o_ixL]
    cases atI xs j with
    | none => rfl
    | some a =>
      show (if flatD (e a) = true then some (e a, io) else none) = _
      rw [hfl]
      rfl
theorem t_ownIxp {i : Nat} {g : XS} {xs : List α} {j : Int} (hfl : ∀ a, flatD (e a) = true) (hi : env[i]? = some (some (eL e xs))) (hg : TX env io g D.int (some j)) : TX env io (x2O ixD i g) e (atI xs j) := t_ownIx hfl hi hg
theorem t_ownLen {i : Nat} {xs : List α} (hi : env[i]? = some (some (eL e xs))) : TX env io (xCO lenD i) D.int (some (xs.length : Int)) := by
  show xCO lenD i env io = _
  unfold xCO
  rw [hi]
  show ((some (D.int ((xs.map e).length : Nat))).bind fun c => if flatD c then some (c, io) else none) = _
  rw [List.length_map]
  rfl
end
/-! ### dicts -/
section
variable {α β : Type} {e : α → D} {env : Env} {io : D}
def putA {κ α : Type} [DecidableEq κ] (kvs : List (κ × α)) (k : κ) (v : α) : List (κ × α) := if kvs.any (fun p => decide (p.1 = k)) then kvs.map (fun p => if p.1 = k then (p.1, v) else p) else kvs ++ [(k, v)]
def pgn {κ : Type} (g : κ → D) (e : α → D) : κ × α → D × D := fun p => (g p.1, e p.2)
theorem putE_map {κ : Type} [DecidableEq κ] {g : κ → D} {eq : D → D → Bool} (hg : ∀ a b, eq (g a) (g b) = decide (a = b)) (kvs : List (κ × α)) (k : κ) (v : α) : putE eq (kvs.map (pgn g e)) (g k) (e v) = (putA kvs k v).map (pgn g e) := by
  unfold putE putA
  have h1 : (kvs.map (pgn g e)).any (fun p => eq p.1 (g k)) = kvs.any fun p => decide (p.1 = k) := by
    rw [List.any_map]
    congr 1
    funext p
    exact hg _ _
  rw [h1]
  cases kvs.any fun p => decide (p.1 = k) with
  | true =>
    rw [if_pos rfl, if_pos rfl, List.map_map, List.map_map]
    refine List.map_congr_left fun p _ => ?_
    show (if eq (g p.1) (g k) = true then (g p.1, e v) else pgn g e p) = pgn g e (if p.1 = k then (p.1, v) else p)
    rw [hg]
    by_cases h : p.1 = k
    · rw [decide_eq_true h, if_pos rfl, if_pos h]; rfl
    · rw [decide_eq_false h, if_neg Bool.false_ne_true, if_neg h]
  | false =>
    rw [if_neg Bool.false_ne_true, if_neg Bool.false_ne_true, List.map_append]
    rfl
theorem eqKi (a b : Int) : eqK (.int a) (.int b) = decide (a = b) := rfl
theorem eqKs_ints : ∀ as bs : List Int, eqKs (as.map D.int) (bs.map D.int) = decide (as = bs)
  | [], [] => by simp [eqKs]
  | [], _ :: _ => by simp [eqKs]
  | _ :: _, [] => by simp [eqKs]
  | a :: as, b :: bs => by
    rw [List.map_cons, List.map_cons, eqKs, eqKi, eqKs_ints as bs]
    by_cases h : a = b <;> by_cases h2 : as = bs <;> simp [h, h2]
theorem keysD_ints : ∀ as : List Int, ∃ ks, keysD (as.map D.int) = some ks
  | [] => ⟨[], rfl⟩
  | a :: as => by
    obtain ⟨ks, h⟩ := keysD_ints as
    refine ⟨.inl a :: ks, ?_⟩
    rw [List.map_cons, keysD, h]
    rfl
@[irreducible] def putO {κ α : Type} [DecidableEq κ] (kvs : List (κ × α)) (k : κ) (v : α) : Option (List (κ × α)) := if Nat.blt kvs.length 16777216 then some (putA kvs k v) else none
theorem a_dputT {f g : XS} {i : Nat} {kvs : List (List Int × α)} {s : Option α} {t : Option (List Int)} (hf : TX env io f e s) (hg : TX env io g (eT D.int) t) (hi : env[i]? = some (some (eDT e kvs))) :
    TA env io (PL.sDPut i f g) (s.bind fun a => t.bind fun k => putO kvs k a) (fun m => env.set i (some (eDT e m))) := by
  show PL.sDPut i f g env io = _
  unfold PL.sDPut
  rw [hf]
  cases s with
  | none => rfl
  | some a =>
    show (g env io).bind _ = _
    rw [hg]
    cases t with
    | none => rfl
    | some k =>
      show (match env[i]? with
        | some (some (.dic t es)) => (putD t es (eT D.int k) (e a)).map fun es' => (Fl.nx, env.set i (some (.dic t es')), io)
        | _ => none) = (putO kvs k a).map _
      rw [hi]
      show ((putD 1 (kvs.map (pgn (eT D.int) e)) (eT D.int k) (e a)).map fun es' => (Fl.nx, env.set i (some (.dic 1 es')), io)) = _
      obtain ⟨ks, hk⟩ := keysD_ints k
      have h1 : putD 1 (kvs.map (pgn (eT D.int) e)) (eT D.int k) (e a) = if Nat.blt (kvs.map (pgn (eT D.int) e)).length 16777216 then some (putE eqKT (kvs.map (pgn (eT D.int) e)) (eT D.int k) (e a)) else none := by
        show ((keysD (k.map D.int)).bind fun _ => _) = _
        rw [hk]
        rfl
      rw [h1, putE_map (g := eT D.int) (eq := eqKT) eqKs_ints, List.length_map]
      unfold putO
      cases Nat.blt kvs.length 16777216 <;> rfl
theorem a_dputI {f g : XS} {i : Nat} {kvs : List (Int × α)} {s : Option α} {t : Option Int} (hf : TX env io f e s) (hg : TX env io g D.int t) (hi : env[i]? = some (some (eDI e kvs))) :
    TA env io (PL.sDPut i f g) (s.bind fun a => t.bind fun k => putO kvs k a) (fun m => env.set i (some (eDI e m))) := by
  show PL.sDPut i f g env io = _
  unfold PL.sDPut
  rw [hf]
  cases s with
  | none => rfl
  | some a =>
    show (g env io).bind _ = _
    rw [hg]
    cases t with
    | none => rfl
    | some k =>
      show (match env[i]? with
        | some (some (.dic t es)) => (putD t es (.int k) (e a)).map fun es' => (Fl.nx, env.set i (some (.dic t es')), io)
        | _ => none) = (putO kvs k a).map _
      rw [hi]
      show ((putD 0 (kvs.map (pgn D.int e)) (.int k) (e a)).map fun es' => (Fl.nx, env.set i (some (.dic 0 es')), io)) = _
      have h1 : putD 0 (kvs.map (pgn D.int e)) (.int k) (e a) = if Nat.blt (kvs.map (pgn D.int e)).length 16777216 then some (putE eqK (kvs.map (pgn D.int e)) (.int k) (e a)) else none := rfl
      rw [h1, putE_map (g := D.int) (eq := eqK) eqKi, List.length_map]
      unfold putO
      cases Nat.blt kvs.length 16777216 <;> rfl
def mergeA {κ α : Type} [DecidableEq κ] (kvs more : List (κ × α)) : List (κ × α) := more.foldl (fun acc p => putA acc p.1 p.2) kvs
theorem pairsD_map : ∀ xs : List (Int × α), pairsD (xs.map (eP2 D.int e)) = some (xs.map (pgn D.int e))
  | [] => rfl
  | x :: xs => by
    rw [List.map_cons, pairsD, pairsD_map xs]
    rfl
theorem mergeE_map : ∀ (more kvs : List (Int × α)), mergeE (kvs.map (pgn D.int e)) (more.map (pgn D.int e)) = (mergeA kvs more).map (pgn D.int e)
  | [], kvs => rfl
  | p :: more, kvs => by
    show mergeE (putE eqK (kvs.map (pgn D.int e)) (.int p.1) (e p.2)) (more.map (pgn D.int e)) = _
    rw [putE_map (g := D.int) (eq := eqK) eqKi]
    exact mergeE_map more _
theorem o_dict (xs : List (Int × α)) : op1 dictD [eL (eP2 D.int e) xs] = (some (mergeA [] xs)).map (eDI e) := by
  show (pairsD (xs.map (eP2 D.int e))).map _ = _
  rw [pairsD_map]
  show some (D.dic 0 (mergeE ([].map (pgn D.int e)) (xs.map (pgn D.int e)))) = _
  rw [mergeE_map]
  rfl
end
/-! ### sorted -/
section
variable {α β : Type}
theorem insL_map {f : α → β} {l1 : α → α → Bool} {l2 : β → β → Bool} (h : ∀ a b, l2 (f a) (f b) = l1 a b) (x : α) : ∀ xs : List α, insL l2 (f x) (xs.map f) = (insL l1 x xs).map f
  | [] => rfl
  | y :: ys => by
    rw [List.map_cons, insL, insL, h, insL_map h x ys]
    cases l1 x y <;> rfl
theorem isort_map {f : α → β} {l1 : α → α → Bool} {l2 : β → β → Bool} (h : ∀ a b, l2 (f a) (f b) = l1 a b) : ∀ xs : List α, isort l2 (xs.map f) = (isort l1 xs).map f
  | [] => rfl
  | x :: xs => by
    rw [List.map_cons, isort, isort, isort_map h xs, insL_map h]
theorem zip_maps {f : α → D} {g : α → PyData} : ∀ xs : List α, (xs.map f).zip (xs.map g) = xs.map fun x => (f x, g x)
  | [] => rfl
  | x :: xs => by rw [List.map_cons, List.map_cons, List.zip_cons_cons, zip_maps xs]; rfl
def lexLtI : List Int → List Int → Bool
  | [], [] => false
  | [], _ :: _ => true
  | _ :: _, [] => false
  | x :: xs, y :: ys => decide (x < y) || (!decide (y < x) && lexLtI xs ys)
def lexLeI (a b : List Int) : Bool := !lexLtI b a
abbrev pyT (xs : List Int) : PyData := .tuple (xs.map .int)
theorem lexLt_toks : ∀ xs ys : List Int, PyProof.Rows.lexLt PyProof.Rows.itemOrd (PySem.W.keyToksAll (xs.map .int)) (PySem.W.keyToksAll (ys.map .int)) = lexLtI xs ys
  | [], [] => by
    rw [List.map_nil, PySem.W.keyToksAll]
    rfl
  | [], y :: ys => by
    rw [List.map_nil, List.map_cons, PySem.W.keyToksAll, PySem.W.keyToksAll]
    rfl
  | x :: xs, [] => by
    rw [List.map_nil, List.map_cons, PySem.W.keyToksAll, PySem.W.keyToksAll]
    rfl
  | x :: xs, y :: ys => by
    have ih := lexLt_toks xs ys
    rw [List.map_cons, List.map_cons, PySem.W.keyToksAll, PySem.W.keyToksAll, PySem.W.keyToks, PySem.W.keyToks]
    show PyProof.Rows.lexLt PyProof.Rows.itemOrd (.inl 1 :: (.inl x :: PySem.W.keyToksAll (xs.map .int))) (.inl 1 :: (.inl y :: PySem.W.keyToksAll (ys.map .int))) = _
    rw [PyProof.Rows.lex_cons, PyProof.Rows.lex_cons, ih]
    show (decide ((1 : Int) < 1) || (!decide ((1 : Int) < 1) && (decide (x < y) || (!decide (y < x) && lexLtI xs ys)))) = _
    rfl
theorem dle_pyT (a b : List Int) : dle (eT D.int a, pyT a) (eT D.int b, pyT b) = lexLeI a b := by
  unfold dle lexLeI PySem.W.dataLt
  show (!PyProof.Rows.lexLt PyProof.Rows.itemOrd (PySem.W.keyToks (pyT b)) (PySem.W.keyToks (pyT a))) = _
  rw [PySem.W.keyToks, PySem.W.keyToks, lexLt_toks]
theorem alike_ints : ∀ xs ys : List Int, PySem.W.alikeAll (xs.map PyData.int) (ys.map PyData.int) = true
  | [], [] => by rw [List.map_nil, PySem.W.alikeAll]
  | [], _ :: _ => by rw [List.map_nil, PySem.W.alikeAll]
  | _ :: _, [] => by rw [List.map_nil, List.map_cons, PySem.W.alikeAll]
  | x :: xs, y :: ys => by rw [List.map_cons, List.map_cons, PySem.W.alikeAll, PySem.W.alike, alike_ints xs ys]; rfl
@[irreducible] def sortTO (xs : List (List Int)) : Option (List (List Int)) := if xs.all (fun x => !x.isEmpty) && (xs.isEmpty || szL xs.length) then some (isort lexLeI xs) else none
theorem sortOk_pyT (xs : List (List Int)) : sortOk (xs.map pyT) = (xs.all (fun x => !x.isEmpty) && (xs.isEmpty || szL xs.length)) := by
  unfold sortOk
  have h1 : ((xs.map pyT).all fun a => (xs.map pyT).all fun b => PySem.W.alike a b) = true := by
    rw [List.all_eq_true]
    intro a ha
    rw [List.all_eq_true]
    intro b hb
    obtain ⟨x, _, rfl⟩ := List.mem_map.mp ha
    obtain ⟨y, _, rfl⟩ := List.mem_map.mp hb
    rw [PySem.W.alike, alike_ints]
  have h2 : (xs.map pyT).all nonETup = xs.all fun x => !x.isEmpty := by
    rw [List.all_map]
    congr 1
    funext x
    cases x <;> rfl
  have h3 : (xs.map pyT).all notTN = xs.isEmpty := by
    cases xs <;> rfl
  have h4 : ((xs.map pyT).all fun y => Nat.ble y.depth 60 && szL (xs.map pyT).length) = (xs.isEmpty || szL xs.length) := by
    rw [List.length_map]
    cases xs with
    | nil => rfl
    | cons x xs =>
      have hd : ∀ y : List Int, Nat.ble (pyT y).depth 60 = true := fun y => by
        have : (pyT y).depth ≤ 60 := Nat.le_trans ((eq_T eq_int).dep y) (by decide)
        exact Nat.ble_eq_true_of_le this
      rw [List.all_map]
      show (((x :: xs).all fun y => (Nat.ble (pyT y).depth 60 && szL (x :: xs).length))) = szL (x :: xs).length
      simp only [hd, Bool.true_and]
      cases szL (x :: xs).length <;> simp
  rw [h1, h2, h3, h4]
  cases xs with
  | nil => rfl
  | cons x xs => simp
theorem sortL_T (xs : List (List Int)) : sortL (xs.map (eT D.int)) = (sortTO xs).map fun ys => ys.map (eT D.int) := by
  unfold sortL
  rw [toPyL_map (eq_T eq_int)]
  show (if sortOk (xs.map pyT) = true then some ((isort dle ((xs.map (eT D.int)).zip (xs.map pyT))).map (·.1)) else none) = _
  rw [sortOk_pyT]
  unfold sortTO
  cases xs.all (fun x => !x.isEmpty) && (xs.isEmpty || szL xs.length) with
  | false => rfl
  | true =>
    rw [if_pos rfl, if_pos rfl, zip_maps, isort_map (f := fun x => (eT D.int x, pyT x)) (l1 := lexLeI) dle_pyT, List.map_map]
    rfl
theorem o_sortedT (xs : List (List Int)) : srtA [eL (eT D.int) xs] = (sortTO xs).map (eL (eT D.int)) := by
  show ((sortL (xs.map (eT D.int))).map D.lst).or none = _
  rw [sortL_T]
  cases sortTO xs <;> rfl
theorem o_sortedDT {γ : Type} {e : γ → D} (kvs : List (List Int × γ)) : srtA [eDT e kvs] = (sortTO (kvs.map (·.1))).map (eL (eT D.int)) := by
  show (sortL ((kvs.map (pgn (eT D.int) e)).map (·.1))).map D.lst = _
  have h : (kvs.map (pgn (eT D.int) e)).map (·.1) = (kvs.map (·.1)).map (eT D.int) := by rw [List.map_map, List.map_map]; rfl
  rw [h, sortL_T]
  cases sortTO (kvs.map (·.1)) <;> rfl
end
end PL

/-! TY4: the hand that draws (the io cell): its parts read and set. -/
namespace PL
open PySem PySem.Spec PyProof.Rows L2
/-- the io cell: cells, place, what is left of a great cell, seed, how many were drawn without cells -/
def hd (cs : List Int) (a b c d : Int) : D := .lst [.lst (cs.map D.int), .int a, .int b, .int c, .int d]
section
variable {cs : List Int} {a b c d v : Int} {env : Env}
theorem rd0 : xIoIx (xC (.int 0)) env (hd cs a b c d) = some (.lst (cs.map D.int), hd cs a b c d) := rfl
theorem rd1 : xIoIx (xC (.int 1)) env (hd cs a b c d) = some (.int a, hd cs a b c d) := rfl
theorem rd2 : xIoIx (xC (.int 2)) env (hd cs a b c d) = some (.int b, hd cs a b c d) := rfl
theorem rd3 : xIoIx (xC (.int 3)) env (hd cs a b c d) = some (.int c, hd cs a b c d) := rfl
theorem rd4 : xIoIx (xC (.int 4)) env (hd cs a b c d) = some (.int d, hd cs a b c d) := rfl
theorem st1 {f : XS} (h : f env (hd cs a b c d) = some (.int v, hd cs a b c d)) : sIoSet f (xC (.int 1)) env (hd cs a b c d) = some (.nx, env, hd cs v b c d) := by unfold sIoSet; rw [h]; rfl
theorem st2 {f : XS} (h : f env (hd cs a b c d) = some (.int v, hd cs a b c d)) : sIoSet f (xC (.int 2)) env (hd cs a b c d) = some (.nx, env, hd cs a v c d) := by unfold sIoSet; rw [h]; rfl
theorem st3 {f : XS} (h : f env (hd cs a b c d) = some (.int v, hd cs a b c d)) : sIoSet f (xC (.int 3)) env (hd cs a b c d) = some (.nx, env, hd cs a b v d) := by unfold sIoSet; rw [h]; rfl
theorem st4 {f : XS} (h : f env (hd cs a b c d) = some (.int v, hd cs a b c d)) : sIoSet f (xC (.int 4)) env (hd cs a b c d) = some (.nx, env, hd cs a b c v) := by unfold sIoSet; rw [h]; rfl
end
/-! values, in short: f comes to d and leaves the io cell as it is -/
section
variable {env : Env} {io : D} {f g : XS} {a b : Int}
abbrev Ev (env : Env) (io : D) (f : XS) (d : D) : Prop := f env io = some (d, io)
theorem ev_c {d : D} : Ev env io (xC d) d := rfl
theorem ev_2 {op : D → D → Option D} {x y z : D} (h : op x y = some z) (hf : Ev env io f x) (hg : Ev env io g y) : Ev env io (x2 op f g) z := by
  show x2 op f g env io = _
  unfold x2
  rw [hf]
  show (g env io).bind _ = _
  rw [hg]
  show (op x y).map _ = _
  rw [h]; rfl
theorem ev_call {F : List D → Option D} {x z : D} (h : F [x] = some z) (hf : Ev env io f x) : Ev env io (xCall F (xCons f xNil)) z := by
  show xCall F _ env io = _
  unfold xCall xCons
  rw [hf]
  show (F [x]).map _ = _
  rw [h]; rfl
abbrev EvL (env : Env) (io : D) (f : XLS) (ds : List D) : Prop := f env io = some (ds, io)
theorem el_nil : EvL env io xNil [] := rfl
theorem el_cons {g : XLS} {x : D} {xs : List D} (hf : Ev env io f x) (hg : EvL env io g xs) : EvL env io (xCons f g) (x :: xs) := by
  show xCons f g env io = _
  unfold xCons
  rw [hf]
  show (g env io).map _ = _
  rw [hg]
  rfl
theorem ev_lst {g : XLS} {xs : List D} (hg : EvL env io g xs) (hz : szL xs.length = true := by rfl) : Ev env io (xLst g) (.lst xs) := by
  show xLst g env io = _
  unfold xLst
  rw [hg]
  show (if szL xs.length = true then some (D.lst xs, io) else none) = _
  rw [hz]
  rfl
theorem ev_tup {g : XLS} {xs : List D} (hg : EvL env io g xs) (hz : szL xs.length = true := by rfl) : Ev env io (xTup g) (.tup xs) := by
  show xTup g env io = _
  unfold xTup
  rw [hg]
  show (if szL xs.length = true then some (D.tup xs, io) else none) = _
  rw [hz]
  rfl
theorem io_L {F : D → List D → Option (D × D)} {g : XLS} {xs : List D} {z io' : D} (hg : EvL env io g xs) (h : F io xs = some (z, io')) : xIo F g env io = some (z, io') := by
  unfold xIo
  rw [hg]
  exact h
theorem ev_callL {F : List D → Option D} {g : XLS} {xs : List D} {z : D} (hg : EvL env io g xs) (h : F xs = some z) : Ev env io (xCall F g) z := by
  show xCall F g env io = _
  unfold xCall
  rw [hg]
  show (F xs).map _ = _
  rw [h]
  rfl
theorem io_0 {F : D → List D → Option (D × D)} {z io' : D} (h : F io [] = some (z, io')) : xIo F xNil env io = some (z, io') := h
theorem io_1 {F : D → List D → Option (D × D)} {x z io' : D} (hf : Ev env io f x) (h : F io [x] = some (z, io')) : xIo F (xCons f xNil) env io = some (z, io') := by
  unfold xIo xCons
  rw [hf]
  exact h
theorem io_2 {F : D → List D → Option (D × D)} {g : XS} {x y z io' : D} (hf : Ev env io f x) (hg : Ev env io g y) (h : F io [x, y] = some (z, io')) : xIo F (xCons f (xCons g xNil)) env io = some (z, io') := by
  show ((xCons f _ env io).bind _) = _
  rw [show xCons f (xCons g xNil) env io = some ([x, y], io) from by
    show (f env io).bind _ = _
    rw [hf]
    show (((g env io).bind _).map _) = _
    rw [hg]
    rfl]
  exact h
theorem io_3 {F : D → List D → Option (D × D)} {g k : XS} {x y u z io' : D} (hf : Ev env io f x) (hg : Ev env io g y) (hk : Ev env io k u) (h : F io [x, y, u] = some (z, io')) : xIo F (xCons f (xCons g (xCons k xNil))) env io = some (z, io') := by
  show ((xCons f _ env io).bind _) = _
  rw [show xCons f (xCons g (xCons k xNil)) env io = some ([x, y, u], io) from by
    show (f env io).bind _ = _
    rw [hf]
    show (((g env io).bind _).map _) = _
    rw [hg]
    show ((((k env io).bind _).map _).map _) = _
    rw [hk]
    rfl]
  exact h
theorem ev_bX {k : Bool} (hf : Ev env io f (.bl k)) : bX f env io = some (k, io) := by
  unfold bX
  rw [hf]; rfl
theorem mulA_r (h : small64 b = true) : mulA (.int a) (.int b) = some (.int (a * b)) := by rw [o_mul]; unfold mulO; rw [h]; simp
theorem mulA_l (h : small64 a = true) : mulA (.int a) (.int b) = some (.int (a * b)) := by rw [o_mul]; unfold mulO; rw [h]; simp
theorem modI_p (h : 0 < b) : modI (.int a) (.int b) = some (.int (a % b)) := by rw [o_mod]; unfold modO; rw [decide_eq_true h]; rfl
theorem fdivI_p (h : 0 < b) (h2 : b < 1073741824) : fdivI (.int a) (.int b) = some (.int (a / b)) := by rw [o_fdiv]; unfold fdivO; rw [decide_eq_true h, decide_eq_true h2]; rfl
theorem eqD_i : eqD (.int a) (.int b) = some (.bl (decide (a = b))) := o_eq eq_int (by decide) a b
theorem sIf_run {c : BS} {f g : SS} {k : Bool} {io' : D} (h : c env io = some (k, io')) : sIf c f g env io = if k then f env io' else g env io' := by
  unfold sIf
  rw [h]; rfl
theorem sRet_run {d io' : D} (h : f env io = some (d, io')) : sRet f env io = some (.rt d, env, io') := by
  unfold sRet
  rw [h]; rfl
theorem sAsg_run {bd : BD} {d io' : D} {env' : Env} (h : f env io = some (d, io')) (hb : bd d env = some env') : sAsg f bd env io = some (.nx, env', io') := by
  unfold sAsg
  rw [h]
  show (bd d env).map _ = _
  rw [hb]; rfl
theorem seq_run {f g : SS} {x : Env} {io' : D} (h : f env io = some (.nx, x, io')) : sSeq f g env io = g x io' := by
  unfold sSeq
  rw [h]; rfl
theorem seq_rt' {f g : SS} {x : Env} {d io' : D} (h : f env io = some (.rt d, x, io')) : sSeq f g env io = some (.rt d, x, io') := by
  unfold sSeq
  rw [h]; rfl
theorem bAnd_t {f g : BS} {io' : D} (h : f env io = some (true, io')) : bAnd f g env io = g env io' := by
  unfold bAnd
  rw [h]; rfl
theorem bAnd_f {f g : BS} {io' : D} (h : f env io = some (false, io')) : bAnd f g env io = some (false, io') := by
  unfold bAnd
  rw [h]; rfl
theorem atI_ok {α : Type} {xs : List α} {i : Int} (h : 0 ≤ i) (h2 : i < (xs.length : Int)) : ∃ x, atI xs i = some x := by
  unfold atI ixN
  rw [if_pos h, if_pos h2]
  have hl : i.toNat < xs.length := by omega
  exact ⟨xs[i.toNat], List.getElem?_eq_getElem hl⟩
end
end PL

namespace My
open PySem PySem.Spec PyProof.Rows L2 PL
def top (i : Nat) : Stmt := PySem.Challenge.pw_handsights_k05_whole_words_counted_by_th.main.body.getD i (.Pass ⟨0, 0, 0, 0⟩)
abbrev s__law_hand : Stmt := top 29
abbrev s__law_draw : Stmt := top 30
abbrev s__law_any : Stmt := top 31
abbrev s_is_integer : Stmt := top 7
abbrev s_check_prime : Stmt := top 10
abbrev s_is_within : Stmt := top 8
abbrev s_all_rows : Stmt := top 18
abbrev s__law_power : Stmt := top 34
abbrev s__law_choose : Stmt := top 35
abbrev s__law_about : Stmt := top 37
abbrev s_is_row : Stmt := top 9
abbrev s_check_values : Stmt := top 12
abbrev s_check_word : Stmt := top 20
abbrev s_lots : Stmt := top 23
abbrev s_check_places : Stmt := top 15
abbrev s_times_root : Stmt := top 17
abbrev s_power : Stmt := top 13
abbrev s_through : Stmt := top 16
abbrev s_is_value : Stmt := top 11
abbrev s_worth : Stmt := top 14
abbrev s_unlike_places : Stmt := top 21
abbrev s_near : Stmt := top 22
abbrev s_common_wrong : Stmt := top 25
abbrev s_story : Stmt := top 24
abbrev s__law_are_near_right : Stmt := top 39
abbrev s_dealt_words : Stmt := top 26
abbrev s__law_weights : Stmt := top 36
abbrev s_least_gap : Stmt := top 27
abbrev s__law_are_dealt_right : Stmt := top 38
abbrev s_law : Stmt := top 40
section
variable {P : Program} {w : World} {K : PySem.W.Frag} {mg : Str → Option Value} {base : Heap}
def d_PRIMES : D := .tuk [.int 2, .int 3, .int 5, .int 7, .int 11, .int 13]
theorem sc__law_hand : FnScope ["script", "cells", "cell"] ["script"] (defScope s__law_hand) := ⟨rfl, rfl, rfl, by decide +kernel, rfl, by decide +kernel, by decide +kernel⟩
abbrev g__law_hand : SS := (sAsg (xComp [2] (xSeq (xSl (xVar 0) oNone (oSome (xC (.int 63))))) (gN 2) bYes (x2 modI (xCall (op1 intD) (xCons (xCall (op1 absD) (xCons (xCall (op1 intD) (xCons (xVar 2) xNil)) xNil)) xNil)) (x2 powI (xC (.int 10)) (xC (.int 60))))) (gN 1))
abbrev r__law_hand : XS := (xLst (xCons (xVar 1) (xCons (xC (.int 0)) (xCons (xC (.int 0)) (xCons (x2 addA (xC (.int 236355)) (x2 mulA (xC (.int 7)) (xCall lenA (xCons (xVar 1) xNil)))) (xCons (xC (.int 0)) xNil))))))
def F__law_hand : List D → Option D := fnN 1 3 g__law_hand r__law_hand
theorem ok__law_hand {f : Addr} {fd : FuncData} (F : FunD K "_law_hand" "_law_hand" (defArgs s__law_hand) (defBody s__law_hand) (defScope s__law_hand) [] [] f fd) (hm : mg "_law_hand" = some (.ref f)) (b_int : mg "int" = none) (b_abs : mg "abs" = none) (b_len : mg "len" = none) : Kn P w K mg base 1 "_law_hand" F__law_hand :=
  kn_of F rfl hm sc__law_hand (F.bindsN fun _ _ _ _ _ _ us hl => match us, hl with | [_], _ => rfl) (g := g__law_hand) (r := r__law_hand) (fun X I => (s_setC (i := 1) [("cell", 2)] I rfl rfl (i_seq (x_slice (v 0 I) o_none (o_some x_int))) (by decide +kernel) (fun _ _ I1 => (g_name (i := 2) I1 rfl (loc_by rfl))) (bd_name rfl) (fun _ _ I1 => t_nil) (fun _ _ I1 => (x_mod (x_toInt I1 b_int (l_cons (x_abs I1 b_abs (l_cons (x_toInt I1 b_int (l_cons (v 2 I1) l_nil)) l_nil)) l_nil)) (x_pow x_int x_int))))) (fun X I => (n_lst (l_cons (v 1 I) (l_cons x_int (l_cons x_int (l_cons (x_add x_int (x_times x_int (x_len I b_len (l_cons (v 1 I) l_nil)))) (l_cons x_int l_nil)))))))
theorem sc__law_draw : FnScope ["hand", "many", "number", "cell", "digit"] ["hand", "many"] (defScope s__law_draw) := ⟨rfl, rfl, rfl, by decide +kernel, rfl, by decide +kernel, by decide +kernel⟩
abbrev g__law_draw : SS :=
  (sSeq (sIf (bAnd (bX (x2 eqD (xIoIx (xC (.int 2))) (xC (.int 0)))) (bX (x2 ltI (xIoIx (xC (.int 1))) (xCall lenA (xCons (xIoIx (xC (.int 0))) xNil))))) (sSeq (sAsg (x2 ixD (xIoIx (xC (.int 0))) (xIoIx (xC (.int 1)))) (gN 3))
  (sSeq (sIoSet (x2 addA (xIoIx (xC (.int 1))) (xC (.int 1))) (xC (.int 1)))
  (sSeq (sIoSet (x2 modI (xCall (op1 intD) (xCons (x2 addA (x2 addA (x2 mulA (xIoIx (xC (.int 3))) (xC (.int 69621))) (x2 mulA (xVar 3) (xC (.int 40692)))) (xC (.int 1033))) xNil)) (xC (.int 2147483629))) (xC (.int 3)))
  (sSeq (sIf (bX (x2 geI (xVar 3) (x2 powI (xC (.int 10)) (xC (.int 18))))) (sSeq (sIoSet (xVar 3) (xC (.int 2))) sSkip) sSkip) (sWipe [3]))))) (sWipe [3]))
  (sSeq (sIf (bX (x2 gtI (xIoIx (xC (.int 2))) (xC (.int 0)))) (sSeq (sAsg (x2 modI (xCall (op1 intD) (xCons (xIoIx (xC (.int 2))) xNil)) (xVar 1)) (gN 4))
  (sSeq (sIoSet (x2 fdivI (xIoIx (xC (.int 2))) (xVar 1)) (xC (.int 2)))
  (sRet (xVar 4)))) sSkip)
  (sSeq (sIoSet (x2 addA (xIoIx (xC (.int 4))) (xC (.int 1))) (xC (.int 4)))
  (sSeq (sAsg (x2 modI (xCall (op1 intD) (xCons (x2 mulA (xCall (op1 intD) (xCons (x2 addA (xIoIx (xC (.int 3))) (x2 mulA (xC (.int 7919)) (xIoIx (xC (.int 4))))) xNil)) (xC (.int 48271))) xNil)) (xC (.int 2147483647))) (gN 2))
  (sSeq (sAsg (x2 modI (xCall (op1 intD) (xCons (x2 mulA (xVar 2) (x2 addA (x2 fdivI (xVar 2) (xC (.int 1009))) (xC (.int 69621)))) xNil)) (xC (.int 2147483647))) (gN 2))
  (sSeq (sAsg (x2 modI (xCall (op1 intD) (xCons (x2 mulA (xVar 2) (x2 addA (x2 fdivI (xVar 2) (xC (.int 2003))) (xC (.int 40014)))) xNil)) (xC (.int 2147483563))) (gN 2))
  (sRet (x2 modI (xCall (op1 intD) (xCons (x2 fdivI (xVar 2) (xC (.int 16))) xNil)) (xVar 1)))))))))
def F__law_draw : D → List D → Option (D × D) := fnI 2 5 g__law_draw
theorem ok__law_draw {f : Addr} {fd : FuncData} (F : FunD K "_law_draw" "_law_draw" (defArgs s__law_draw) (defBody s__law_draw) (defScope s__law_draw) [] [] f fd) (hm : mg "_law_draw" = some (.ref f)) (b_int : mg "int" = none) (b_len : mg "len" = none) : Ki P w K mg base 1 "_law_draw" F__law_draw :=
  ki_of F hm sc__law_draw (F.bindsN fun _ _ _ _ _ _ us hl => match us, hl with | [_, _], _ => rfl) (g := g__law_draw) fun X I =>
  (ss_cons (s_if (s' := ⟨some 0, []⟩) (b_bool (w_and (b_eq I (x_ioIx (i := 0) I rfl rfl (vis_by rfl) x_int) x_int) (w_and1 (b_lt (x_ioIx (i := 0) I rfl rfl (vis_by rfl) x_int) (x_len I b_len (l_cons (x_ioIx (i := 0) I rfl rfl (vis_by rfl) x_int) l_nil)))))) (ss_cons (s_set (i := 3) I rfl (loc_by rfl) (x_sub (x_ioIx (i := 0) I rfl rfl (vis_by rfl) x_int) (x_ioIx (i := 0) I rfl rfl (vis_by rfl) x_int)))
  (ss_cons (s_ioSet (i := 0) I rfl rfl (vis_by rfl) (x_add (x_ioIx (i := 0) I rfl rfl (vis_by rfl) x_int) x_int) x_int)
  (ss_cons (s_ioSet (i := 0) I rfl rfl (vis_by rfl) (x_mod (x_toInt I b_int (l_cons (x_add (x_add (x_times (x_ioIx (i := 0) I rfl rfl (vis_by rfl) x_int) x_int) (x_times (v 3 I) x_int)) x_int) l_nil)) x_int) x_int)
  (ss_cons (s_if (s' := ⟨some 0, []⟩) (b_ge (v 3 I) (x_pow x_int x_int)) (ss_cons (s_ioSet (i := 0) I rfl rfl (vis_by rfl) (v 3 I) x_int) ss_nil) ss_nil) (ss_nilW [3]))))) (ss_nilW [3]))
  (ss_cons (s_if (s' := ⟨some 0, []⟩) (b_gt (x_ioIx (i := 0) I rfl rfl (vis_by rfl) x_int) x_int) (ss_cons (s_set (i := 4) I rfl (loc_by rfl) (x_mod (x_toInt I b_int (l_cons (x_ioIx (i := 0) I rfl rfl (vis_by rfl) x_int) l_nil)) (v 1 I)))
  (ss_cons (s_ioSet (i := 0) I rfl rfl (vis_by rfl) (x_fdiv (x_ioIx (i := 0) I rfl rfl (vis_by rfl) x_int) (v 1 I)) x_int)
  (ss_one (s_ret (v 4 I))))) ss_nil)
  (ss_cons (s_ioSet (i := 0) I rfl rfl (vis_by rfl) (x_add (x_ioIx (i := 0) I rfl rfl (vis_by rfl) x_int) x_int) x_int)
  (ss_cons (s_set (i := 2) I rfl (loc_by rfl) (x_mod (x_toInt I b_int (l_cons (x_times (x_toInt I b_int (l_cons (x_add (x_ioIx (i := 0) I rfl rfl (vis_by rfl) x_int) (x_times x_int (x_ioIx (i := 0) I rfl rfl (vis_by rfl) x_int))) l_nil)) x_int) l_nil)) x_int))
  (ss_cons (s_set (i := 2) I rfl (loc_by rfl) (x_mod (x_toInt I b_int (l_cons (x_times (v 2 I) (x_add (x_fdiv (v 2 I) x_int) x_int)) l_nil)) x_int))
  (ss_cons (s_set (i := 2) I rfl (loc_by rfl) (x_mod (x_toInt I b_int (l_cons (x_times (v 2 I) (x_add (x_fdiv (v 2 I) x_int) x_int)) l_nil)) x_int))
  (ss_one (s_ret (x_mod (x_toInt I b_int (l_cons (x_fdiv (v 2 I) x_int) l_nil)) (v 1 I))))))))))
theorem sc__law_any : FnScope ["hand", "some"] ["hand", "some"] (defScope s__law_any) := ⟨rfl, rfl, rfl, by decide +kernel, rfl, by decide +kernel, by decide +kernel⟩
abbrev g__law_any : SS :=
  (sRet (x2 ixD (xVar 1) (xIo F__law_draw (xCons (xCall lenA (xCons (xVar 1) xNil)) xNil))))
def F__law_any : D → List D → Option (D × D) := fnI 2 2 g__law_any
theorem ok__law_any {f : Addr} {fd : FuncData} (F : FunD K "_law_any" "_law_any" (defArgs s__law_any) (defBody s__law_any) (defScope s__law_any) [] [] f fd) (hm : mg "_law_any" = some (.ref f)) (b_len : mg "len" = none) (h__law_draw : Ki P w K mg base 1 "_law_draw" F__law_draw) : Ki P w K mg base 2 "_law_any" F__law_any :=
  ki_of F hm sc__law_any (F.bindsN fun _ _ _ _ _ _ us hl => match us, hl with | [_, _], _ => rfl) (g := g__law_any) fun X I =>
  (ss_one (s_ret (x_sub (v 1 I) (u_io (i := 0) I h__law_draw rfl rfl (vis_by rfl) (l_cons (x_len I b_len (l_cons (v 1 I) l_nil)) l_nil)))))
theorem sc_is_integer : FnScope ["thing"] ["thing"] (defScope s_is_integer) := ⟨rfl, rfl, rfl, by decide +kernel, rfl, by decide +kernel, by decide +kernel⟩
abbrev g_is_integer : SS :=
  (sRet (xAnd (x1 (isiD "int") (xVar 0)) (xNot (x1 (isiD "bool") (xVar 0)))))
def F_is_integer : List D → Option D := fnP 1 1 g_is_integer
theorem ok_is_integer {f : Addr} {fd : FuncData} (F : FunD K "is_integer" "is_integer" (defArgs s_is_integer) (defBody s_is_integer) (defScope s_is_integer) [] [] f fd) (hm : mg "is_integer" = some (.ref f)) (b_isinstance : mg "isinstance" = none) (b_int : mg "int" = none) (b_bool : mg "bool" = none) : Kp P w K mg base 1 "is_integer" F_is_integer :=
  kp_of F hm sc_is_integer (F.bindsN fun _ _ _ _ _ _ us hl => match us, hl with | [_], _ => rfl) (g := g_is_integer) fun X I =>
  (ss_one (s_ret (x_and (x_isi I rfl b_isinstance rfl b_int (by first | rfl | decide +kernel) (v 0 I)) (x_one (x_not (x_isi I rfl b_isinstance rfl b_bool (by first | rfl | decide +kernel) (v 0 I)))))))
theorem sc_check_prime : FnScope ["prime"] ["prime"] (defScope s_check_prime) := ⟨rfl, rfl, rfl, by decide +kernel, rfl, by decide +kernel, by decide +kernel⟩
abbrev g_check_prime : SS :=
  (sSeq (sIf (bOr (bNot (bX (xCall F_is_integer (xCons (xVar 0) xNil)))) (bX (x2 notInD (xVar 0) (xC d_PRIMES)))) sNever sSkip) sSkip)
def F_check_prime : List D → Option D := fnP 1 1 g_check_prime
theorem ok_check_prime {f : Addr} {fd : FuncData} (F : FunD K "check_prime" "check_prime" (defArgs s_check_prime) (defBody s_check_prime) (defScope s_check_prime) [] [] f fd) (hm : mg "check_prime" = some (.ref f)) (c_PRIMES : Kc K mg "PRIMES" d_PRIMES) (h_is_integer : Kp P w K mg base 1 "is_integer" F_is_integer) : Kp P w K mg base 2 "check_prime" F_check_prime :=
  kp_of F hm sc_check_prime (F.bindsN fun _ _ _ _ _ _ us hl => match us, hl with | [_], _ => rfl) (g := g_check_prime) fun X I =>
  (ss_cons (s_if (s' := ⟨none, []⟩) (b_bool (w_or (b_not (b_val (u_fn I h_is_integer (l_cons (v 0 I) l_nil)))) (w_or1 (b_notIn (v 0 I) (x_const I c_PRIMES))))) ss_never ss_nil) ss_nil)
theorem sc_is_within : FnScope ["thing", "low", "high"] ["thing", "low", "high"] (defScope s_is_within) := ⟨rfl, rfl, rfl, by decide +kernel, rfl, by decide +kernel, by decide +kernel⟩
abbrev g_is_within : SS :=
  (sRet (xAnd (xCall F_is_integer (xCons (xVar 0) xNil)) (xChain leI leI (xVar 1) (xVar 0) (xVar 2))))
def F_is_within : List D → Option D := fnP 3 3 g_is_within
theorem ok_is_within {f : Addr} {fd : FuncData} (F : FunD K "is_within" "is_within" (defArgs s_is_within) (defBody s_is_within) (defScope s_is_within) [] [] f fd) (hm : mg "is_within" = some (.ref f)) (h_is_integer : Kp P w K mg base 1 "is_integer" F_is_integer) : Kp P w K mg base 2 "is_within" F_is_within :=
  kp_of F hm sc_is_within (F.bindsN fun _ _ _ _ _ _ us hl => match us, hl with | [_, _, _], _ => rfl) (g := g_is_within) fun X I =>
  (ss_one (s_ret (x_and (u_fn I h_is_integer (l_cons (v 0 I) l_nil)) (x_one (x_chain op_le op_le k_leI k_leI (v 1 I) (v 0 I) (v 2 I))))))
theorem sc_all_rows : FnScope ["prime", "many", "found", "turn", "longer", "row", "one"] ["prime", "many"] (defScope s_all_rows) := ⟨rfl, rfl, rfl, by decide +kernel, rfl, by decide +kernel, by decide +kernel⟩
abbrev g_all_rows : SS :=
  (sSeq (sDrop (xCall F_check_prime (xCons (xVar 0) xNil)))
  (sSeq (sIf (bNot (bX (xCall F_is_within (xCons (xVar 1) (xCons (xC (.int 0)) (xCons (xC (.int 14)) xNil)))))) sNever sSkip)
  (sSeq (sAsg (xLst (xCons (xTup xNil) xNil)) (gN 2))
  (sSeq (sFor (xSrc range1 (xCons (xVar 1) xNil)) (gN 3) (sSeq (sNew (xLst xNil) 4)
  (sSeq (sFor (xSeq (xVar 2)) (gN 5) (sSeq (sExt 4 (xComp [6] (xSrc range1 (xCons (xVar 0) xNil)) (gN 6) bYes (x2 addA (xVar 5) (xTup (xCons (xVar 6) xNil))))) (sWipe [5])) [5])
  (sSeq (sAsg (xVar 4) (gN 2))
  (sSeq (sIf (bX (x2 gtI (xCall lenA (xCons (xVar 2) xNil)) (xC (.int 20000)))) sNever sSkip) (sWipe [3, 4, 5]))))) [3, 4, 5])
  (sRet (xVar 2))))))
def F_all_rows : List D → Option D := fnP 2 7 g_all_rows
theorem ok_all_rows {f : Addr} {fd : FuncData} (F : FunD K "all_rows" "all_rows" (defArgs s_all_rows) (defBody s_all_rows) (defScope s_all_rows) [] [] f fd) (hm : mg "all_rows" = some (.ref f)) (b_range : mg "range" = none) (b_len : mg "len" = none) (h_check_prime : Kp P w K mg base 2 "check_prime" F_check_prime) (h_is_within : Kp P w K mg base 2 "is_within" F_is_within) : Kp P w K mg base 3 "all_rows" F_all_rows :=
  kp_of F hm sc_all_rows (F.bindsN fun _ _ _ _ _ _ us hl => match us, hl with | [_, _], _ => rfl) (g := g_all_rows) fun X I =>
  (ss_cons (s_expr (u_fn I h_check_prime (l_cons (v 0 I) l_nil)))
  (ss_cons (s_if (s' := ⟨none, []⟩) (b_not (b_val (u_fn I h_is_within (l_cons (v 1 I) (l_cons x_int (l_cons x_int l_nil)))))) ss_never ss_nil)
  (ss_cons (s_set (i := 2) I rfl (loc_by rfl) (x_lst (l_cons (x_tup l_nil) l_nil)))
  (ss_cons (s_for (vs := [3]) [3, 4, 5] I (i_range1 I rfl b_range (l_cons (v 1 I) l_nil)) (g_name (i := 3) I rfl (loc_by rfl)) (ss_cons (s_new (i := 4) I rfl (loc_by rfl) (n_lst l_nil))
  (ss_cons (s_for (vs := [5]) [5] I (i_seq (v 2 I)) (g_name (i := 5) I rfl (loc_by rfl)) (ss_cons (s_extend (i := 4) I rfl (vis_by rfl) (x_new (n_comp [("one", 6)] I (i_range1 I rfl b_range (l_cons (v 0 I) l_nil)) (by decide +kernel) (fun _ _ I4 => (g_name (i := 6) I4 rfl (loc_by rfl))) (bd_name rfl) (fun _ _ I4 => t_nil) (fun _ _ I4 => (x_add (v 5 I4) (x_tup (l_cons (v 6 I4) l_nil))))))) (ss_nilW [5])))
  (ss_cons (s_frz ⟨none, []⟩ (s_set (i := 2) I rfl (loc_by rfl) (v 4 I)))
  (ss_cons (s_if (s' := ⟨none, []⟩) (b_gt (x_len I b_len (l_cons (v 2 I) l_nil)) x_int) ss_never ss_nil) (ss_nilW [3, 4, 5]))))))
  (ss_one (s_ret (v 2 I)))))))
theorem sc__law_power : FnScope ["base", "many", "found", "turn"] ["base", "many"] (defScope s__law_power) := ⟨rfl, rfl, rfl, by decide +kernel, rfl, by decide +kernel, by decide +kernel⟩
abbrev g__law_power : SS :=
  (sSeq (sAsg (xC (.int 1)) (gN 2))
  (sSeq (sFor (xSrc range1 (xCons (xVar 1) xNil)) (gN 3) (sSeq (sAsg (x2 mulA (xVar 2) (xVar 0)) (gN 2)) (sWipe [3])) [3])
  (sRet (xVar 2))))
def F__law_power : List D → Option D := fnP 2 4 g__law_power
theorem ok__law_power {f : Addr} {fd : FuncData} (F : FunD K "_law_power" "_law_power" (defArgs s__law_power) (defBody s__law_power) (defScope s__law_power) [] [] f fd) (hm : mg "_law_power" = some (.ref f)) (b_range : mg "range" = none) : Kp P w K mg base 1 "_law_power" F__law_power :=
  kp_of F hm sc__law_power (F.bindsN fun _ _ _ _ _ _ us hl => match us, hl with | [_, _], _ => rfl) (g := g__law_power) fun X I =>
  (ss_cons (s_set (i := 2) I rfl (loc_by rfl) x_int)
  (ss_cons (s_for (vs := [3]) [3] I (i_range1 I rfl b_range (l_cons (v 1 I) l_nil)) (g_name (i := 3) I rfl (loc_by rfl)) (ss_cons (s_set (i := 2) I rfl (loc_by rfl) (x_times (v 2 I) (v 0 I))) (ss_nilW [3])))
  (ss_one (s_ret (v 2 I)))))
theorem sc__law_choose : FnScope ["many", "few", "found", "at"] ["many", "few"] (defScope s__law_choose) := ⟨rfl, rfl, rfl, by decide +kernel, rfl, by decide +kernel, by decide +kernel⟩
abbrev g__law_choose : SS :=
  (sSeq (sAsg (xC (.int 1)) (gN 2))
  (sSeq (sFor (xSrc range1 (xCons (xVar 1) xNil)) (gN 3) (sSeq (sAsg (x2 fdivI (x2 mulA (xVar 2) (x2 subI (xVar 0) (xVar 3))) (x2 addA (xVar 3) (xC (.int 1)))) (gN 2)) (sWipe [3])) [3])
  (sRet (xVar 2))))
def F__law_choose : List D → Option D := fnP 2 4 g__law_choose
theorem ok__law_choose {f : Addr} {fd : FuncData} (F : FunD K "_law_choose" "_law_choose" (defArgs s__law_choose) (defBody s__law_choose) (defScope s__law_choose) [] [] f fd) (hm : mg "_law_choose" = some (.ref f)) (b_range : mg "range" = none) : Kp P w K mg base 1 "_law_choose" F__law_choose :=
  kp_of F hm sc__law_choose (F.bindsN fun _ _ _ _ _ _ us hl => match us, hl with | [_, _], _ => rfl) (g := g__law_choose) fun X I =>
  (ss_cons (s_set (i := 2) I rfl (loc_by rfl) x_int)
  (ss_cons (s_for (vs := [3]) [3] I (i_range1 I rfl b_range (l_cons (v 1 I) l_nil)) (g_name (i := 3) I rfl (loc_by rfl)) (ss_cons (s_set (i := 2) I rfl (loc_by rfl) (x_fdiv (x_times (v 2 I) (x_minus (v 0 I) (v 3 I))) (x_add (v 3 I) x_int))) (ss_nilW [3])))
  (ss_one (s_ret (v 2 I)))))
theorem sc__law_about : FnScope ["prime", "length", "wrong", "at"] ["prime", "length", "wrong"] (defScope s__law_about) := ⟨rfl, rfl, rfl, by decide +kernel, rfl, by decide +kernel, by decide +kernel⟩
abbrev g__law_about : SS :=
  (sRet (xCall (op1 sumD) (xCons (xComp [3] (xSrc range1 (xCons (x2 addA (xVar 2) (xC (.int 1))) xNil)) (gN 3) bYes (x2 mulA (xCall F__law_choose (xCons (xVar 1) (xCons (xVar 3) xNil))) (xCall F__law_power (xCons (x2 subI (xVar 0) (xC (.int 1))) (xCons (xVar 3) xNil))))) xNil)))
def F__law_about : List D → Option D := fnP 3 4 g__law_about
theorem ok__law_about {f : Addr} {fd : FuncData} (F : FunD K "_law_about" "_law_about" (defArgs s__law_about) (defBody s__law_about) (defScope s__law_about) [] [] f fd) (hm : mg "_law_about" = some (.ref f)) (b_sum : mg "sum" = none) (b_range : mg "range" = none) (h__law_choose : Kp P w K mg base 1 "_law_choose" F__law_choose) (h__law_power : Kp P w K mg base 1 "_law_power" F__law_power) : Kp P w K mg base 2 "_law_about" F__law_about :=
  kp_of F hm sc__law_about (F.bindsN fun _ _ _ _ _ _ us hl => match us, hl with | [_, _, _], _ => rfl) (g := g__law_about) fun X I =>
  (ss_one (s_ret (x_sum I b_sum (l_cons (x_new (n_comp [("at", 3)] I (i_range1 I rfl b_range (l_cons (x_add (v 2 I) x_int) l_nil)) (by decide +kernel) (fun _ _ I1 => (g_name (i := 3) I1 rfl (loc_by rfl))) (bd_name rfl) (fun _ _ I1 => t_nil) (fun _ _ I1 => (x_times (u_fn I1 h__law_choose (l_cons (v 1 I1) (l_cons (v 3 I1) l_nil))) (u_fn I1 h__law_power (l_cons (x_minus (v 0 I1) x_int) (l_cons (v 3 I1) l_nil))))))) l_nil))))
theorem sc_is_row : FnScope ["thing"] ["thing"] (defScope s_is_row) := ⟨rfl, rfl, rfl, by decide +kernel, rfl, by decide +kernel, by decide +kernel⟩
abbrev g_is_row : SS :=
  (sRet (x1 (isi2D "list" "tuple") (xVar 0)))
def F_is_row : List D → Option D := fnP 1 1 g_is_row
theorem ok_is_row {f : Addr} {fd : FuncData} (F : FunD K "is_row" "is_row" (defArgs s_is_row) (defBody s_is_row) (defScope s_is_row) [] [] f fd) (hm : mg "is_row" = some (.ref f)) (b_isinstance : mg "isinstance" = none) (b_list : mg "list" = none) (b_tuple : mg "tuple" = none) : Kp P w K mg base 1 "is_row" F_is_row :=
  kp_of F hm sc_is_row (F.bindsN fun _ _ _ _ _ _ us hl => match us, hl with | [_], _ => rfl) (g := g_is_row) fun X I =>
  (ss_one (s_ret (x_isi2 I rfl b_isinstance rfl b_list rfl b_tuple (v 0 I))))
theorem sc_check_values : FnScope ["prime", "row", "one"] ["prime", "row"] (defScope s_check_values) := ⟨rfl, rfl, rfl, by decide +kernel, rfl, by decide +kernel, by decide +kernel⟩
abbrev g_check_values : SS :=
  (sSeq (sDrop (xCall F_check_prime (xCons (xVar 0) xNil)))
  (sSeq (sIf (bOr (bNot (bX (xCall F_is_row (xCons (xVar 1) xNil)))) (bNot (bX (xCall (op1 allD) (xCons (xComp [2] (xSeq (xVar 1)) (gN 2) bYes (xCall F_is_within (xCons (xVar 2) (xCons (xC (.int 0)) (xCons (x2 subI (xVar 0) (xC (.int 1))) xNil))))) xNil))))) sNever sSkip) sSkip))
def F_check_values : List D → Option D := fnP 2 3 g_check_values
theorem ok_check_values {f : Addr} {fd : FuncData} (F : FunD K "check_values" "check_values" (defArgs s_check_values) (defBody s_check_values) (defScope s_check_values) [] [] f fd) (hm : mg "check_values" = some (.ref f)) (b_all : mg "all" = none) (h_check_prime : Kp P w K mg base 2 "check_prime" F_check_prime) (h_is_row : Kp P w K mg base 1 "is_row" F_is_row) (h_is_within : Kp P w K mg base 2 "is_within" F_is_within) : Kp P w K mg base 3 "check_values" F_check_values :=
  kp_of F hm sc_check_values (F.bindsN fun _ _ _ _ _ _ us hl => match us, hl with | [_, _], _ => rfl) (g := g_check_values) fun X I =>
  (ss_cons (s_expr (u_fn I h_check_prime (l_cons (v 0 I) l_nil)))
  (ss_cons (s_if (s' := ⟨none, []⟩) (b_bool (w_or (b_not (b_val (u_fn I h_is_row (l_cons (v 1 I) l_nil)))) (w_or1 (b_not (b_val (x_all I b_all (l_cons (x_new (n_comp [("one", 2)] I (i_seq (v 1 I)) (by decide +kernel) (fun _ _ I1 => (g_name (i := 2) I1 rfl (loc_by rfl))) (bd_name rfl) (fun _ _ I1 => t_nil) (fun _ _ I1 => (u_fn I1 h_is_within (l_cons (v 2 I1) (l_cons x_int (l_cons (x_minus (v 0 I1) x_int) l_nil))))))) l_nil))))))) ss_never ss_nil) ss_nil))
theorem sc_check_word : FnScope ["prime", "word", "many"] ["prime", "word", "many"] (defScope s_check_word) := ⟨rfl, rfl, rfl, by decide +kernel, rfl, by decide +kernel, by decide +kernel⟩
abbrev g_check_word : SS :=
  (sSeq (sDrop (xCall F_check_prime (xCons (xVar 0) xNil)))
  (sSeq (sDrop (xCall F_check_values (xCons (xVar 0) (xCons (xVar 1) xNil))))
  (sSeq (sIf (bNot (bX (xChain leI ltI (xC (.int 1)) (xCall lenA (xCons (xVar 1) xNil)) (xVar 0)))) sNever sSkip)
  (sSeq (sIf (bNot (bX (xCall F_is_within (xCons (xVar 2) (xCons (xC (.int 0)) (xCons (x2 subI (xCall lenA (xCons (xVar 1) xNil)) (xC (.int 1))) xNil)))))) sNever sSkip) sSkip))))
def F_check_word : List D → Option D := fnP 3 3 g_check_word
theorem ok_check_word {f : Addr} {fd : FuncData} (F : FunD K "check_word" "check_word" (defArgs s_check_word) (defBody s_check_word) (defScope s_check_word) [] [] f fd) (hm : mg "check_word" = some (.ref f)) (b_len : mg "len" = none) (h_check_prime : Kp P w K mg base 2 "check_prime" F_check_prime) (h_check_values : Kp P w K mg base 3 "check_values" F_check_values) (h_is_within : Kp P w K mg base 2 "is_within" F_is_within) : Kp P w K mg base 4 "check_word" F_check_word :=
  kp_of F hm sc_check_word (F.bindsN fun _ _ _ _ _ _ us hl => match us, hl with | [_, _, _], _ => rfl) (g := g_check_word) fun X I =>
  (ss_cons (s_expr (u_fn I h_check_prime (l_cons (v 0 I) l_nil)))
  (ss_cons (s_expr (u_fn I h_check_values (l_cons (v 0 I) (l_cons (v 1 I) l_nil))))
  (ss_cons (s_if (s' := ⟨none, []⟩) (b_not (b_chain op_le op_lt k_leI k_ltI x_int (x_len I b_len (l_cons (v 1 I) l_nil)) (v 0 I))) ss_never ss_nil)
  (ss_cons (s_if (s' := ⟨none, []⟩) (b_not (b_val (u_fn I h_is_within (l_cons (v 2 I) (l_cons x_int (l_cons (x_minus (x_len I b_len (l_cons (v 1 I) l_nil)) x_int) l_nil)))))) ss_never ss_nil) ss_nil))))
theorem sc_lots : FnScope ["many", "size", "found", "place", "lot"] ["many", "size"] (defScope s_lots) := ⟨rfl, rfl, rfl, by decide +kernel, rfl, by decide +kernel, by decide +kernel⟩
abbrev g_lots : SS :=
  (sSeq (sAsg (xLst (xCons (xTup xNil) xNil)) (gN 2))
  (sSeq (sFor (xSrc range1 (xCons (xVar 0) xNil)) (gN 3) (sSeq (sAsg (x2 addA (xVar 2) (xComp [4] (xSeq (xVar 2)) (gN 4) (bX (x2 ltI (xCall lenA (xCons (xVar 4) xNil)) (xVar 1))) (x2 addA (xVar 4) (xTup (xCons (xVar 3) xNil))))) (gN 2)) (sWipe [3])) [3])
  (sRet (xCall srtA (xCons (xComp [4] (xSeq (xVar 2)) (gN 4) (bX (x2 eqD (xCall lenA (xCons (xVar 4) xNil)) (xVar 1))) (xVar 4)) xNil)))))
def F_lots : List D → Option D := fnP 2 5 g_lots
theorem ok_lots {f : Addr} {fd : FuncData} (F : FunD K "lots" "lots" (defArgs s_lots) (defBody s_lots) (defScope s_lots) [] [] f fd) (hm : mg "lots" = some (.ref f)) (b_range : mg "range" = none) (b_sorted : mg "sorted" = none) (b_len : mg "len" = none) : Kp P w K mg base 1 "lots" F_lots :=
  kp_of F hm sc_lots (F.bindsN fun _ _ _ _ _ _ us hl => match us, hl with | [_, _], _ => rfl) (g := g_lots) fun X I =>
  (ss_cons (s_set (i := 2) I rfl (loc_by rfl) (x_lst (l_cons (x_tup l_nil) l_nil)))
  (ss_cons (s_for (vs := [3]) [3] I (i_range1 I rfl b_range (l_cons (v 0 I) l_nil)) (g_name (i := 3) I rfl (loc_by rfl)) (ss_cons (s_set (i := 2) I rfl (loc_by rfl) (x_add (v 2 I) (x_new (n_comp [("lot", 4)] I (i_seq (v 2 I)) (by decide +kernel) (fun _ _ I2 => (g_name (i := 4) I2 rfl (loc_by rfl))) (bd_name rfl) (fun _ _ I2 => (t_one (b_lt (x_len I2 b_len (l_cons (v 4 I2) l_nil)) (v 1 I2)))) (fun _ _ I2 => (x_add (v 4 I2) (x_tup (l_cons (v 3 I2) l_nil)))))))) (ss_nilW [3])))
  (ss_one (s_ret (x_sorted I b_sorted (l_cons (x_new (n_comp [("lot", 4)] I (i_seq (v 2 I)) (by decide +kernel) (fun _ _ I3 => (g_name (i := 4) I3 rfl (loc_by rfl))) (bd_name rfl) (fun _ _ I3 => (t_one (b_eq I3 (x_len I3 b_len (l_cons (v 4 I3) l_nil)) (v 1 I3)))) (fun _ _ I3 => (v 4 I3)))) l_nil))))))
theorem sc_check_places : FnScope ["prime", "places"] ["prime", "places"] (defScope s_check_places) := ⟨rfl, rfl, rfl, by decide +kernel, rfl, by decide +kernel, by decide +kernel⟩
abbrev g_check_places : SS :=
  (sSeq (sDrop (xCall F_check_values (xCons (xVar 0) (xCons (xVar 1) xNil))))
  (sSeq (sIf (bX (x2 neD (x1 lenSetD (xVar 1)) (xCall lenA (xCons (xVar 1) xNil)))) sNever sSkip) sSkip))
def F_check_places : List D → Option D := fnP 2 2 g_check_places
theorem ok_check_places {f : Addr} {fd : FuncData} (F : FunD K "check_places" "check_places" (defArgs s_check_places) (defBody s_check_places) (defScope s_check_places) [] [] f fd) (hm : mg "check_places" = some (.ref f)) (b_len : mg "len" = none) (b_set : mg "set" = none) (h_check_values : Kp P w K mg base 3 "check_values" F_check_values) : Kp P w K mg base 4 "check_places" F_check_places :=
  kp_of F hm sc_check_places (F.bindsN fun _ _ _ _ _ _ us hl => match us, hl with | [_, _], _ => rfl) (g := g_check_places) fun X I =>
  (ss_cons (s_expr (u_fn I h_check_values (l_cons (v 0 I) (l_cons (v 1 I) l_nil))))
  (ss_cons (s_if (s' := ⟨none, []⟩) (b_ne I (x_lenSet I rfl b_len rfl b_set (v 1 I)) (x_len I b_len (l_cons (v 1 I) l_nil))) ss_never ss_nil) ss_nil))
theorem sc_times_root : FnScope ["prime", "items", "root", "found", "at", "item"] ["prime", "items", "root"] (defScope s_times_root) := ⟨rfl, rfl, rfl, by decide +kernel, rfl, by decide +kernel, by decide +kernel⟩
abbrev g_times_root : SS :=
  (sSeq (sNew (x2 addL (xLst (xCons (xC (.int 0)) xNil)) (xCall (op1 listD) (xCons (xVar 1) xNil))) 3)
  (sSeq (sFor (xSrc enumS (xCons (xVar 1) xNil)) (gTup (gCons (gN 4) (gCons (gN 5) gNil))) (sSeq (sSetI 3 (x2 modI (xCall (op1 intD) (xCons (x2 subI (x2O ixD 3 (xVar 4)) (x2 mulA (xVar 2) (xVar 5))) xNil)) (xVar 0)) (xVar 4)) (sWipe [4, 5])) [4, 5])
  (sRet (xVar 3))))
def F_times_root : List D → Option D := fnP 3 6 g_times_root
theorem ok_times_root {f : Addr} {fd : FuncData} (F : FunD K "times_root" "times_root" (defArgs s_times_root) (defBody s_times_root) (defScope s_times_root) [] [] f fd) (hm : mg "times_root" = some (.ref f)) (b_enumerate : mg "enumerate" = none) (b_list : mg "list" = none) (b_int : mg "int" = none) : Kp P w K mg base 1 "times_root" F_times_root :=
  kp_of F hm sc_times_root (F.bindsN fun _ _ _ _ _ _ us hl => match us, hl with | [_, _, _], _ => rfl) (g := g_times_root) fun X I =>
  (ss_cons (s_new (i := 3) I rfl (loc_by rfl) (n_add (x_lst (l_cons x_int l_nil)) (x_new (n_toLst I b_list (l_cons (v 1 I) l_nil)))))
  (ss_cons (s_for (vs := [4, 5]) [4, 5] I (i_enum I rfl b_enumerate (l_cons (v 1 I) l_nil)) (g_tup I (gs_cons (g_name (i := 4) I rfl (loc_by rfl)) (gs_cons (g_name (i := 5) I rfl (loc_by rfl)) gs_nil)) (gCons_len (gCons_len gNil_len))) (ss_cons (s_setI (i := 3) I rfl (vis_by rfl) (x_mod (x_toInt I b_int (l_cons (x_minus (x_ownIx (i := 3) I rfl (vis_by rfl) ix_seq k_ixD (v 4 I)) (x_times (v 2 I) (v 5 I))) l_nil)) (v 0 I)) (v 4 I)) (ss_nilW [4, 5])))
  (ss_one (s_frz ⟨none, []⟩ (s_ret (v 3 I))))))
theorem sc_power : FnScope ["prime", "base", "many", "found", "turn"] ["prime", "base", "many"] (defScope s_power) := ⟨rfl, rfl, rfl, by decide +kernel, rfl, by decide +kernel, by decide +kernel⟩
abbrev g_power : SS :=
  (sSeq (sDrop (xCall F_check_prime (xCons (xVar 0) xNil)))
  (sSeq (sIf (bOr (bNot (bX (xCall F_is_integer (xCons (xVar 1) xNil)))) (bNot (bX (xCall F_is_within (xCons (xVar 2) (xCons (xC (.int 0)) (xCons (xC (.int 1000)) xNil))))))) sNever sSkip)
  (sSeq (sAsg (xC (.int 1)) (gN 3))
  (sSeq (sFor (xSrc range1 (xCons (xVar 2) xNil)) (gN 4) (sSeq (sAsg (x2 modI (xCall (op1 intD) (xCons (x2 mulA (xVar 3) (xVar 1)) xNil)) (xVar 0)) (gN 3)) (sWipe [4])) [4])
  (sRet (xVar 3))))))
def F_power : List D → Option D := fnP 3 5 g_power
theorem ok_power {f : Addr} {fd : FuncData} (F : FunD K "power" "power" (defArgs s_power) (defBody s_power) (defScope s_power) [] [] f fd) (hm : mg "power" = some (.ref f)) (b_range : mg "range" = none) (b_int : mg "int" = none) (h_check_prime : Kp P w K mg base 2 "check_prime" F_check_prime) (h_is_integer : Kp P w K mg base 1 "is_integer" F_is_integer) (h_is_within : Kp P w K mg base 2 "is_within" F_is_within) : Kp P w K mg base 3 "power" F_power :=
  kp_of F hm sc_power (F.bindsN fun _ _ _ _ _ _ us hl => match us, hl with | [_, _, _], _ => rfl) (g := g_power) fun X I =>
  (ss_cons (s_expr (u_fn I h_check_prime (l_cons (v 0 I) l_nil)))
  (ss_cons (s_if (s' := ⟨none, []⟩) (b_bool (w_or (b_not (b_val (u_fn I h_is_integer (l_cons (v 1 I) l_nil)))) (w_or1 (b_not (b_val (u_fn I h_is_within (l_cons (v 2 I) (l_cons x_int (l_cons x_int l_nil))))))))) ss_never ss_nil)
  (ss_cons (s_set (i := 3) I rfl (loc_by rfl) x_int)
  (ss_cons (s_for (vs := [4]) [4] I (i_range1 I rfl b_range (l_cons (v 2 I) l_nil)) (g_name (i := 4) I rfl (loc_by rfl)) (ss_cons (s_set (i := 3) I rfl (loc_by rfl) (x_mod (x_toInt I b_int (l_cons (x_times (v 3 I) (v 1 I)) l_nil)) (v 0 I))) (ss_nilW [4])))
  (ss_one (s_ret (v 3 I)))))))
theorem sc_through : FnScope ["prime", "pairs", "places", "found", "place", "value", "other", "share", "pair", "base", "bottom", "here", "more"] ["prime", "pairs"] (defScope s_through) := ⟨rfl, rfl, rfl, by decide +kernel, rfl, by decide +kernel, by decide +kernel⟩
abbrev g_through : SS :=
  (sSeq (sIf (bOr (bNot (bX (xCall F_is_row (xCons (xVar 1) xNil)))) (bNot (bX (xCall (op1 allD) (xCons (xComp [8] (xSeq (xVar 1)) (gN 8) bYes (xAnd (xCall F_is_row (xCons (xVar 8) xNil)) (x2 eqD (xCall lenA (xCons (xVar 8) xNil)) (xC (.int 2))))) xNil))))) sNever sSkip)
  (sSeq (sAsg (xComp [8] (xSeq (xVar 1)) (gN 8) bYes (x2 ixD (xVar 8) (xC (.int 0)))) (gN 2))
  (sSeq (sDrop (xCall F_check_places (xCons (xVar 0) (xCons (xVar 2) xNil))))
  (sSeq (sDrop (xCall F_check_values (xCons (xVar 0) (xCons (xComp [8] (xSeq (xVar 1)) (gN 8) bYes (x2 ixD (xVar 8) (xC (.int 1)))) xNil))))
  (sSeq (sAsg (x2 mulA (xLst (xCons (xC (.int 0)) xNil)) (xCall lenA (xCons (xVar 1) xNil))) (gN 3))
  (sSeq (sFor (xSeq (xVar 1)) (gTup (gCons (gN 4) (gCons (gN 5) gNil))) (sSeq (sPar 9 10 (xCons (xLst (xCons (xC (.int 1)) xNil)) (xCons (xC (.int 1)) xNil)))
  (sSeq (sFor (xSeq (xVar 2)) (gN 6) (sSeq (sIf (bX (x2 neD (xVar 6) (xVar 4))) (sSeq (sAsg (xCall F_times_root (xCons (xVar 0) (xCons (xVar 9) (xCons (xVar 6) xNil)))) (gN 9))
  (sSeq (sAsg (x2 modI (xCall (op1 intD) (xCons (x2 mulA (xVar 10) (x2 subI (xVar 4) (xVar 6))) xNil)) (xVar 0)) (gN 10)) sSkip)) sSkip) (sWipe [6])) [6])
  (sSeq (sAsg (x2 modI (xCall (op1 intD) (xCons (x2 mulA (xVar 5) (xIf (bX (x2 gtI (xVar 0) (xC (.int 2)))) (xCall F_power (xCons (xVar 0) (xCons (xVar 10) (xCons (x2 subI (xVar 0) (xC (.int 2))) xNil)))) (xC (.int 1)))) xNil)) (xVar 0)) (gN 7))
  (sSeq (sAsg (xComp [11, 12] (xSrc zipS (xCons (xVar 3) (xCons (x2 addA (xVar 9) (x2 mulA (xLst (xCons (xC (.int 0)) xNil)) (x2 subI (xCall lenA (xCons (xVar 3) xNil)) (xCall lenA (xCons (xVar 9) xNil))))) xNil))) (gTup (gCons (gN 11) (gCons (gN 12) gNil))) bYes (x2 modI (xCall (op1 intD) (xCons (x2 addA (xVar 11) (x2 mulA (xVar 7) (xVar 12))) xNil)) (xVar 0))) (gN 3)) (sWipe [4, 5, 6, 7, 9, 10]))))) [4, 5, 6, 7, 9, 10])
  (sRet (xCall (op1 tupleD) (xCons (xVar 3) xNil)))))))))
def F_through : List D → Option D := fnP 2 13 g_through
theorem ok_through {f : Addr} {fd : FuncData} (F : FunD K "through" "through" (defArgs s_through) (defBody s_through) (defScope s_through) [] [] f fd) (hm : mg "through" = some (.ref f)) (b_tuple : mg "tuple" = none) (b_len : mg "len" = none) (b_all : mg "all" = none) (b_int : mg "int" = none) (b_zip : mg "zip" = none) (h_check_places : Kp P w K mg base 4 "check_places" F_check_places) (h_check_values : Kp P w K mg base 3 "check_values" F_check_values) (h_is_row : Kp P w K mg base 1 "is_row" F_is_row) (h_times_root : Kp P w K mg base 1 "times_root" F_times_root) (h_power : Kp P w K mg base 3 "power" F_power) : Kp P w K mg base 5 "through" F_through :=
  kp_of F hm sc_through (F.bindsN fun _ _ _ _ _ _ us hl => match us, hl with | [_, _], _ => rfl) (g := g_through) fun X I =>
  (ss_cons (s_if (s' := ⟨none, []⟩) (b_bool (w_or (b_not (b_val (u_fn I h_is_row (l_cons (v 1 I) l_nil)))) (w_or1 (b_not (b_val (x_all I b_all (l_cons (x_new (n_comp [("pair", 8)] I (i_seq (v 1 I)) (by decide +kernel) (fun _ _ I1 => (g_name (i := 8) I1 rfl (loc_by rfl))) (bd_name rfl) (fun _ _ I1 => t_nil) (fun _ _ I1 => (x_and (u_fn I1 h_is_row (l_cons (v 8 I1) l_nil)) (x_one (x_eq I1 (x_len I1 b_len (l_cons (v 8 I1) l_nil)) x_int)))))) l_nil))))))) ss_never ss_nil)
  (ss_cons (s_setC (i := 2) [("pair", 8)] I rfl rfl (i_seq (v 1 I)) (by decide +kernel) (fun _ _ I2 => (g_name (i := 8) I2 rfl (loc_by rfl))) (bd_name rfl) (fun _ _ I2 => t_nil) (fun _ _ I2 => (x_sub (v 8 I2) x_int)))
  (ss_cons (s_expr (u_fn I h_check_places (l_cons (v 0 I) (l_cons (v 2 I) l_nil))))
  (ss_cons (s_expr (u_fn I h_check_values (l_cons (v 0 I) (l_cons (x_new (n_comp [("pair", 8)] I (i_seq (v 1 I)) (by decide +kernel) (fun _ _ I3 => (g_name (i := 8) I3 rfl (loc_by rfl))) (bd_name rfl) (fun _ _ I3 => t_nil) (fun _ _ I3 => (x_sub (v 8 I3) x_int)))) l_nil))))
  (ss_cons (s_set (i := 3) I rfl (loc_by rfl) (x_times (x_lst (l_cons x_int l_nil)) (x_len I b_len (l_cons (v 1 I) l_nil))))
  (ss_cons (s_for (vs := [4, 5]) [4, 5, 6, 7, 9, 10] I (i_seq (v 1 I)) (g_tup I (gs_cons (g_name (i := 4) I rfl (loc_by rfl)) (gs_cons (g_name (i := 5) I rfl (loc_by rfl)) gs_nil)) (gCons_len (gCons_len gNil_len))) (ss_cons (s_par (i := 9) (j := 10) I rfl rfl rfl rfl (l_cons (x_lst (l_cons x_int l_nil)) (l_cons x_int l_nil)) (hw := by rw [env_sc I]; rfl))
  (ss_cons (s_for (vs := [6]) [6] I (i_seq (v 2 I)) (g_name (i := 6) I rfl (loc_by rfl)) (ss_cons (s_if (s' := ⟨none, []⟩) (b_ne I (v 6 I) (v 4 I)) (ss_cons (s_set (i := 9) I rfl (loc_by rfl) (u_fn I h_times_root (l_cons (v 0 I) (l_cons (v 9 I) (l_cons (v 6 I) l_nil)))))
  (ss_cons (s_set (i := 10) I rfl (loc_by rfl) (x_mod (x_toInt I b_int (l_cons (x_times (v 10 I) (x_minus (v 4 I) (v 6 I))) l_nil)) (v 0 I))) ss_nil)) ss_nil) (ss_nilW [6])))
  (ss_cons (s_set (i := 7) I rfl (loc_by rfl) (x_mod (x_toInt I b_int (l_cons (x_times (v 5 I) (x_if (b_gt (v 0 I) x_int) (u_fn I h_power (l_cons (v 0 I) (l_cons (v 10 I) (l_cons (x_minus (v 0 I) x_int) l_nil)))) x_int)) l_nil)) (v 0 I)))
  (ss_cons (s_setC (i := 3) [("here", 11), ("more", 12)] I rfl rfl (i_zip I rfl b_zip (l_cons (v 3 I) (l_cons (x_add (v 9 I) (x_times (x_lst (l_cons x_int l_nil)) (x_minus (x_len I b_len (l_cons (v 3 I) l_nil)) (x_len I b_len (l_cons (v 9 I) l_nil))))) l_nil))) (by decide +kernel) (fun _ _ I5 => (g_tup I5 (gs_cons (g_name (i := 11) I5 rfl (loc_by rfl)) (gs_cons (g_name (i := 12) I5 rfl (loc_by rfl)) gs_nil)) (gCons_len (gCons_len gNil_len)))) (bd_tup (bds_cons (bd_name rfl) (bds_cons (bd_name rfl) bds_nil))) (fun _ _ I5 => t_nil) (fun _ _ I5 => (x_mod (x_toInt I5 b_int (l_cons (x_add (v 11 I5) (x_times (v 7 I5) (v 12 I5))) l_nil)) (v 0 I5)))) (ss_nilW [4, 5, 6, 7, 9, 10]))))))
  (ss_one (s_ret (x_toTup I b_tuple (l_cons (v 3 I) l_nil))))))))))
theorem sc_is_value : FnScope ["prime", "thing"] ["prime", "thing"] (defScope s_is_value) := ⟨rfl, rfl, rfl, by decide +kernel, rfl, by decide +kernel, by decide +kernel⟩
abbrev g_is_value : SS :=
  (sSeq (sDrop (xCall F_check_prime (xCons (xVar 0) xNil)))
  (sRet (xCall F_is_within (xCons (xVar 1) (xCons (xC (.int 0)) (xCons (x2 subI (xVar 0) (xC (.int 1))) xNil))))))
def F_is_value : List D → Option D := fnP 2 2 g_is_value
theorem ok_is_value {f : Addr} {fd : FuncData} (F : FunD K "is_value" "is_value" (defArgs s_is_value) (defBody s_is_value) (defScope s_is_value) [] [] f fd) (hm : mg "is_value" = some (.ref f)) (h_check_prime : Kp P w K mg base 2 "check_prime" F_check_prime) (h_is_within : Kp P w K mg base 2 "is_within" F_is_within) : Kp P w K mg base 3 "is_value" F_is_value :=
  kp_of F hm sc_is_value (F.bindsN fun _ _ _ _ _ _ us hl => match us, hl with | [_, _], _ => rfl) (g := g_is_value) fun X I =>
  (ss_cons (s_expr (u_fn I h_check_prime (l_cons (v 0 I) l_nil)))
  (ss_one (s_ret (u_fn I h_is_within (l_cons (v 1 I) (l_cons x_int (l_cons (x_minus (v 0 I) x_int) l_nil)))))))
theorem sc_worth : FnScope ["prime", "items", "at", "found", "item"] ["prime", "items", "at"] (defScope s_worth) := ⟨rfl, rfl, rfl, by decide +kernel, rfl, by decide +kernel, by decide +kernel⟩
abbrev g_worth : SS :=
  (sSeq (sDrop (xCall F_check_values (xCons (xVar 0) (xCons (xVar 1) xNil))))
  (sSeq (sIf (bNot (bX (xCall F_is_value (xCons (xVar 0) (xCons (xVar 2) xNil))))) sNever sSkip)
  (sSeq (sAsg (xC (.int 0)) (gN 3))
  (sSeq (sFor (xSeq (x1 revD (xCall (op1 listD) (xCons (xVar 1) xNil)))) (gN 4) (sSeq (sAsg (x2 modI (xCall (op1 intD) (xCons (x2 addA (x2 mulA (xVar 3) (xVar 2)) (xVar 4)) xNil)) (xVar 0)) (gN 3)) (sWipe [4])) [4])
  (sRet (xVar 3))))))
def F_worth : List D → Option D := fnP 3 5 g_worth
theorem ok_worth {f : Addr} {fd : FuncData} (F : FunD K "worth" "worth" (defArgs s_worth) (defBody s_worth) (defScope s_worth) [] [] f fd) (hm : mg "worth" = some (.ref f)) (b_list : mg "list" = none) (b_int : mg "int" = none) (h_check_values : Kp P w K mg base 3 "check_values" F_check_values) (h_is_value : Kp P w K mg base 3 "is_value" F_is_value) : Kp P w K mg base 4 "worth" F_worth :=
  kp_of F hm sc_worth (F.bindsN fun _ _ _ _ _ _ us hl => match us, hl with | [_, _, _], _ => rfl) (g := g_worth) fun X I =>
  (ss_cons (s_expr (u_fn I h_check_values (l_cons (v 0 I) (l_cons (v 1 I) l_nil))))
  (ss_cons (s_if (s' := ⟨none, []⟩) (b_not (b_val (u_fn I h_is_value (l_cons (v 0 I) (l_cons (v 2 I) l_nil))))) ss_never ss_nil)
  (ss_cons (s_set (i := 3) I rfl (loc_by rfl) x_int)
  (ss_cons (s_for (vs := [4]) [4] I (i_seq (x_rev (x_new (n_toLst I b_list (l_cons (v 1 I) l_nil))))) (g_name (i := 4) I rfl (loc_by rfl)) (ss_cons (s_set (i := 3) I rfl (loc_by rfl) (x_mod (x_toInt I b_int (l_cons (x_add (x_times (v 3 I) (v 2 I)) (v 4 I)) l_nil)) (v 0 I))) (ss_nilW [4])))
  (ss_one (s_ret (v 3 I)))))))
theorem sc_unlike_places : FnScope ["prime", "word", "items", "at", "one"] ["prime", "word", "items"] (defScope s_unlike_places) := ⟨rfl, rfl, rfl, by decide +kernel, rfl, by decide +kernel, by decide +kernel⟩
abbrev g_unlike_places : SS :=
  (sRet (xCall (op1 tupleD) (xCons (xComp [3, 4] (xSrc enumS (xCons (xVar 1) xNil)) (gTup (gCons (gN 3) (gCons (gN 4) gNil))) (bX (x2 neD (xCall F_worth (xCons (xVar 0) (xCons (xVar 2) (xCons (x2 addA (xVar 3) (xC (.int 1))) xNil)))) (xVar 4))) (xVar 3)) xNil)))
def F_unlike_places : List D → Option D := fnP 3 5 g_unlike_places
theorem ok_unlike_places {f : Addr} {fd : FuncData} (F : FunD K "unlike_places" "unlike_places" (defArgs s_unlike_places) (defBody s_unlike_places) (defScope s_unlike_places) [] [] f fd) (hm : mg "unlike_places" = some (.ref f)) (b_tuple : mg "tuple" = none) (b_enumerate : mg "enumerate" = none) (h_worth : Kp P w K mg base 4 "worth" F_worth) : Kp P w K mg base 5 "unlike_places" F_unlike_places :=
  kp_of F hm sc_unlike_places (F.bindsN fun _ _ _ _ _ _ us hl => match us, hl with | [_, _, _], _ => rfl) (g := g_unlike_places) fun X I =>
  (ss_one (s_ret (x_toTup I b_tuple (l_cons (x_new (n_comp [("at", 3), ("one", 4)] I (i_enum I rfl b_enumerate (l_cons (v 1 I) l_nil)) (by decide +kernel) (fun _ _ I1 => (g_tup I1 (gs_cons (g_name (i := 3) I1 rfl (loc_by rfl)) (gs_cons (g_name (i := 4) I1 rfl (loc_by rfl)) gs_nil)) (gCons_len (gCons_len gNil_len)))) (bd_tup (bds_cons (bd_name rfl) (bds_cons (bd_name rfl) bds_nil))) (fun _ _ I1 => (t_one (b_ne I1 (u_fn I1 h_worth (l_cons (v 0 I1) (l_cons (v 2 I1) (l_cons (x_add (v 3 I1) x_int) l_nil)))) (v 4 I1)))) (fun _ _ I1 => (v 3 I1)))) l_nil))))
theorem sc_near : FnScope ["prime", "word", "many", "wrong", "found", "lot", "items", "at"] ["prime", "word", "many", "wrong"] (defScope s_near) := ⟨rfl, rfl, rfl, by decide +kernel, rfl, by decide +kernel, by decide +kernel⟩
abbrev g_near : SS :=
  (sSeq (sDrop (xCall F_check_word (xCons (xVar 0) (xCons (xVar 1) (xCons (xVar 2) xNil)))))
  (sSeq (sIf (bNot (bX (xCall F_is_within (xCons (xVar 3) (xCons (xC (.int 0)) (xCons (x2 subI (x2 subI (xCall lenA (xCons (xVar 1) xNil)) (xVar 2)) (xC (.int 1))) xNil)))))) sNever sSkip)
  (sSeq (sNew (xC (.dic 1 [])) 4)
  (sSeq (sFor (xSeq (xCall F_lots (xCons (xCall lenA (xCons (xVar 1) xNil)) (xCons (x2 addA (xVar 2) (xC (.int 1))) xNil)))) (gN 5) (sSeq (sAsg (xCall F_through (xCons (xVar 0) (xCons (xComp [7] (xSeq (xVar 5)) (gN 7) bYes (xTup (xCons (x2 addA (xVar 7) (xC (.int 1))) (xCons (x2 ixD (xVar 1) (xVar 7)) xNil)))) xNil))) (gN 6))
  (sSeq (sIf (bX (x2 leI (xCall lenA (xCons (xCall F_unlike_places (xCons (xVar 0) (xCons (xVar 1) (xCons (xVar 6) xNil)))) xNil)) (xVar 3))) (sSeq (PL.sDPut 4 (xC (.bl true)) (xVar 6)) sSkip) sSkip) (sWipe [5, 6]))) [5, 6])
  (sRet (xCall srtA (xCons (xVar 4) xNil)))))))
def F_near : List D → Option D := fnP 4 8 g_near
theorem ok_near {f : Addr} {fd : FuncData} (F : FunD K "near" "near" (defArgs s_near) (defBody s_near) (defScope s_near) [] [] f fd) (hm : mg "near" = some (.ref f)) (b_sorted : mg "sorted" = none) (b_len : mg "len" = none) (h_check_word : Kp P w K mg base 4 "check_word" F_check_word) (h_lots : Kp P w K mg base 1 "lots" F_lots) (h_is_within : Kp P w K mg base 2 "is_within" F_is_within) (h_through : Kp P w K mg base 5 "through" F_through) (h_unlike_places : Kp P w K mg base 5 "unlike_places" F_unlike_places) : Kp P w K mg base 6 "near" F_near :=
  kp_of F hm sc_near (F.bindsN fun _ _ _ _ _ _ us hl => match us, hl with | [_, _, _, _], _ => rfl) (g := g_near) fun X I =>
  (ss_cons (s_expr (u_fn I h_check_word (l_cons (v 0 I) (l_cons (v 1 I) (l_cons (v 2 I) l_nil)))))
  (ss_cons (s_if (s' := ⟨none, []⟩) (b_not (b_val (u_fn I h_is_within (l_cons (v 3 I) (l_cons x_int (l_cons (x_minus (x_minus (x_len I b_len (l_cons (v 1 I) l_nil)) (v 2 I)) x_int) l_nil)))))) ss_never ss_nil)
  (ss_cons (s_new (i := 4) I rfl (loc_by rfl) n_dnew1)
  (ss_cons (s_for (vs := [5]) [5, 6] I (i_seq (u_fn I h_lots (l_cons (x_len I b_len (l_cons (v 1 I) l_nil)) (l_cons (x_add (v 2 I) x_int) l_nil)))) (g_name (i := 5) I rfl (loc_by rfl)) (ss_cons (s_set (i := 6) I rfl (loc_by rfl) (u_fn I h_through (l_cons (v 0 I) (l_cons (x_new (n_comp [("at", 7)] I (i_seq (v 5 I)) (by decide +kernel) (fun _ _ I2 => (g_name (i := 7) I2 rfl (loc_by rfl))) (bd_name rfl) (fun _ _ I2 => t_nil) (fun _ _ I2 => (x_tup (l_cons (x_add (v 7 I2) x_int) (l_cons (x_sub (v 1 I2) (v 7 I2)) l_nil)))))) l_nil))))
  (ss_cons (s_if (s' := ⟨none, [4]⟩) (b_le (x_len I b_len (l_cons (u_fn I h_unlike_places (l_cons (v 0 I) (l_cons (v 1 I) (l_cons (v 6 I) l_nil)))) l_nil)) (v 3 I)) (ss_cons (s_dput (i := 4) I rfl (vis_by rfl) x_bl (v 6 I)) ss_nil) ss_nil) (ss_nilW [5, 6]))))
  (ss_one (s_frz ⟨none, []⟩ (s_ret (x_sorted I b_sorted (l_cons (v 4 I) l_nil)))))))))
theorem sc_common_wrong : FnScope ["prime", "word", "some", "rows", "items", "at", "row"] ["prime", "word", "some"] (defScope s_common_wrong) := ⟨rfl, rfl, rfl, by decide +kernel, rfl, by decide +kernel, by decide +kernel⟩
abbrev g_common_wrong : SS :=
  (sSeq (sAsg (xComp [4] (xSeq (xVar 2)) (gN 4) bYes (xCall F_unlike_places (xCons (xVar 0) (xCons (xVar 1) (xCons (xVar 4) xNil))))) (gN 3))
  (sRet (xCall (op1 tupleD) (xCons (xComp [5] (xSeq (x2 ixD (xVar 3) (xC (.int 0)))) (gN 5) (bX (xCall (op1 allD) (xCons (xComp [6] (xSeq (xVar 3)) (gN 6) bYes (x2 inD (xVar 5) (xVar 6))) xNil))) (xVar 5)) xNil))))
def F_common_wrong : List D → Option D := fnP 3 7 g_common_wrong
theorem ok_common_wrong {f : Addr} {fd : FuncData} (F : FunD K "common_wrong" "common_wrong" (defArgs s_common_wrong) (defBody s_common_wrong) (defScope s_common_wrong) [] [] f fd) (hm : mg "common_wrong" = some (.ref f)) (b_tuple : mg "tuple" = none) (b_all : mg "all" = none) (h_unlike_places : Kp P w K mg base 5 "unlike_places" F_unlike_places) : Kp P w K mg base 6 "common_wrong" F_common_wrong :=
  kp_of F hm sc_common_wrong (F.bindsN fun _ _ _ _ _ _ us hl => match us, hl with | [_, _, _], _ => rfl) (g := g_common_wrong) fun X I =>
  (ss_cons (s_setCell (i := 3) I rfl (loc_by rfl) (x_new (n_comp [("items", 4)] I (i_seq (v 2 I)) (by decide +kernel) (fun _ _ I1 => (g_name (i := 4) I1 rfl (loc_by rfl))) (bd_name rfl) (fun _ _ I1 => t_nil) (fun _ _ I1 => (u_fn I1 h_unlike_places (l_cons (v 0 I1) (l_cons (v 1 I1) (l_cons (v 4 I1) l_nil))))))))
  (ss_one (s_ret (x_toTup I b_tuple (l_cons (x_new (n_comp [("at", 5)] I (i_seq (x_sub (v 3 I) x_int)) (by decide +kernel) (fun _ _ I2 => (g_name (i := 5) I2 rfl (loc_by rfl))) (bd_name rfl) (fun _ _ I2 => (t_one (b_val (x_all I2 b_all (l_cons (x_new (n_comp [("row", 6)] I2 (i_seq (v 3 I2)) (by decide +kernel) (fun _ _ I3 => (g_name (i := 6) I3 rfl (loc_by rfl))) (bd_name rfl) (fun _ _ I3 => t_nil) (fun _ _ I3 => (x_in (v 5 I3) (v 6 I3))))) l_nil))))) (fun _ _ I2 => (v 5 I2)))) l_nil)))))
theorem sc_story : FnScope ["prime", "word", "many", "wrong", "some", "other"] ["prime", "word", "many", "wrong"] (defScope s_story) := ⟨rfl, rfl, rfl, by decide +kernel, rfl, by decide +kernel, by decide +kernel⟩
abbrev g_story : SS :=
  (sSeq (sAsg (xCall F_near (xCons (xVar 0) (xCons (xVar 1) (xCons (xVar 2) (xCons (xVar 3) xNil))))) (gN 4))
  (sSeq (sIf (bX (x2 eqD (xVar 4) (xLst xNil))) (sRet (xTup (xCons (xC (.str ("none" : Str))) xNil))) sSkip)
  (sSeq (sFor (xSeq (xSl (xVar 4) (oSome (xC (.int 1))) oNone)) (gN 5) (sSeq (sIf (bX (x2 neD (x2 ixD (xVar 5) (xC (.int 0))) (x2 ixD (x2 ixD (xVar 4) (xC (.int 0))) (xC (.int 0))))) (sRet (xTup (xCons (xC (.str ("two" : Str))) (xCons (x2 ixD (xVar 4) (xC (.int 0))) (xCons (xVar 5) xNil))))) sSkip) (sWipe [5])) [5])
  (sRet (xTup (xCons (xC (.str ("one" : Str))) (xCons (x2 ixD (x2 ixD (xVar 4) (xC (.int 0))) (xC (.int 0))) (xCons (xCall F_common_wrong (xCons (xVar 0) (xCons (xVar 1) (xCons (xVar 4) xNil)))) xNil))))))))
def F_story : List D → Option D := fnP 4 6 g_story
theorem ok_story {f : Addr} {fd : FuncData} (F : FunD K "story" "story" (defArgs s_story) (defBody s_story) (defScope s_story) [] [] f fd) (hm : mg "story" = some (.ref f)) (h_near : Kp P w K mg base 6 "near" F_near) (h_common_wrong : Kp P w K mg base 6 "common_wrong" F_common_wrong) : Kp P w K mg base 7 "story" F_story :=
  kp_of F hm sc_story (F.bindsN fun _ _ _ _ _ _ us hl => match us, hl with | [_, _, _, _], _ => rfl) (g := g_story) fun X I =>
  (ss_cons (s_set (i := 4) I rfl (loc_by rfl) (u_fn I h_near (l_cons (v 0 I) (l_cons (v 1 I) (l_cons (v 2 I) (l_cons (v 3 I) l_nil))))))
  (ss_cons (s_if (s' := ⟨none, []⟩) (b_eq I (v 4 I) (x_lst l_nil)) (ss_one (s_ret (x_tup (l_cons x_str l_nil)))) ss_nil)
  (ss_cons (s_for (vs := [5]) [5] I (i_seq (x_slice (v 4 I) (o_some x_int) o_none)) (g_name (i := 5) I rfl (loc_by rfl)) (ss_cons (s_if (s' := ⟨none, []⟩) (b_ne I (x_sub (v 5 I) x_int) (x_sub (x_sub (v 4 I) x_int) x_int)) (ss_one (s_ret (x_tup (l_cons x_str (l_cons (x_sub (v 4 I) x_int) (l_cons (v 5 I) l_nil)))))) ss_nil) (ss_nilW [5])))
  (ss_one (s_ret (x_tup (l_cons x_str (l_cons (x_sub (x_sub (v 4 I) x_int) x_int) (l_cons (u_fn I h_common_wrong (l_cons (v 0 I) (l_cons (v 1 I) (l_cons (v 4 I) l_nil)))) l_nil)))))))))
theorem sc__law_are_near_right : FnScope ["prime", "length", "many", "wrong", "word", "total", "single", "dealt", "about", "is_apart", "found", "thing", "row"] ["prime", "length", "many", "wrong"] (defScope s__law_are_near_right) := ⟨rfl, rfl, rfl, by decide +kernel, rfl, by decide +kernel, by decide +kernel⟩
abbrev g__law_are_near_right : SS :=
  (sSeq (sPar3 5 6 7 (xCons (xC (.int 0)) (xCons (xC (.int 0)) (xCons (xCall F__law_power (xCons (xVar 0) (xCons (x2 addA (xVar 2) (xC (.int 1))) xNil))) xNil))))
  (sSeq (sPar 8 9 (xCons (xCall F__law_about (xCons (xVar 0) (xCons (xVar 1) (xCons (xVar 3) xNil)))) (xCons (x2 ltI (x2 mulA (xC (.int 2)) (xVar 3)) (x2 subI (xVar 1) (xVar 2))) xNil)))
  (sSeq (sFor (xSeq (xCall F_all_rows (xCons (xVar 0) (xCons (xVar 1) xNil)))) (gN 4) (sSeq (sAsg (xCall F_near (xCons (xVar 0) (xCons (xVar 4) (xCons (xVar 2) (xCons (xVar 3) xNil))))) (gN 10))
  (sSeq (sAsg (x2 addA (xVar 5) (xCall lenA (xCons (xVar 10) xNil))) (gN 5))
  (sSeq (sIf (bAnd (bX (xVar 9)) (bX (x2 gtI (xCall lenA (xCons (xVar 10) xNil)) (xC (.int 1))))) (sRet (xC (.bl false))) sSkip)
  (sSeq (sAsg (xCall F_story (xCons (xVar 0) (xCons (xVar 4) (xCons (xVar 2) (xCons (xVar 3) xNil))))) (gN 11))
  (sSeq (sIf (bOr (bX (x2 neD (x2 eqD (x2 ixD (xVar 11) (xC (.int 0))) (xC (.str ("none" : Str)))) (x2 eqD (xCall lenA (xCons (xVar 10) xNil)) (xC (.int 0))))) (bX (x2 neD (x2 eqD (x2 ixD (xVar 11) (xC (.int 0))) (xC (.str ("two" : Str)))) (x2 gtI (xCall lenA (xCons (xCall (op1 dictD) (xCons (xComp [12] (xSeq (xVar 10)) (gN 12) bYes (xTup (xCons (x2 ixD (xVar 12) (xC (.int 0))) (xCons (xC (.bl true)) xNil)))) xNil)) xNil)) (xC (.int 1)))))) (sRet (xC (.bl false))) sSkip)
  (sSeq (sAsg (x2 addA (xVar 6) (xCall (op1 intD) (xCons (x2 eqD (x2 ixD (xVar 11) (xC (.int 0))) (xC (.str ("one" : Str)))) xNil))) (gN 6))
  (sSeq (sIf (bAnd (bX (x2 eqD (x2 ixD (xVar 11) (xC (.int 0))) (xC (.str ("one" : Str))))) (bX (x2 neD (x2 ixD (xVar 11) (xC (.int 1))) (x2 ixD (x2 ixD (xVar 10) (xC (.int 0))) (xC (.int 0)))))) (sRet (xC (.bl false))) sSkip) (sWipe [4, 10, 11])))))))) [4, 10, 11])
  (sRet (xAnd (x2 eqD (xVar 5) (x2 mulA (xVar 7) (xVar 8))) (xOr (x2 eqD (xVar 6) (xVar 5)) (xNot (xVar 9))))))))
def F__law_are_near_right : List D → Option D := fnP 4 13 g__law_are_near_right
theorem ok__law_are_near_right {f : Addr} {fd : FuncData} (F : FunD K "_law_are_near_right" "_law_are_near_right" (defArgs s__law_are_near_right) (defBody s__law_are_near_right) (defScope s__law_are_near_right) [] [] f fd) (hm : mg "_law_are_near_right" = some (.ref f)) (b_len : mg "len" = none) (b_int : mg "int" = none) (b_dict : mg "dict" = none) (h_all_rows : Kp P w K mg base 3 "all_rows" F_all_rows) (h__law_power : Kp P w K mg base 1 "_law_power" F__law_power) (h__law_about : Kp P w K mg base 2 "_law_about" F__law_about) (h_near : Kp P w K mg base 6 "near" F_near) (h_story : Kp P w K mg base 7 "story" F_story) : Kp P w K mg base 8 "_law_are_near_right" F__law_are_near_right :=
  kp_of F hm sc__law_are_near_right (F.bindsN fun _ _ _ _ _ _ us hl => match us, hl with | [_, _, _, _], _ => rfl) (g := g__law_are_near_right) fun X I =>
  (ss_cons (s_par3 (i := 5) (j := 6) (l := 7) I rfl rfl rfl rfl rfl rfl (l_cons x_int (l_cons x_int (l_cons (u_fn I h__law_power (l_cons (v 0 I) (l_cons (x_add (v 2 I) x_int) l_nil))) l_nil))) (hw := by rw [env_sc I]; rfl))
  (ss_cons (s_par (i := 8) (j := 9) I rfl rfl rfl rfl (l_cons (u_fn I h__law_about (l_cons (v 0 I) (l_cons (v 1 I) (l_cons (v 3 I) l_nil)))) (l_cons (x_lt (x_times x_int (v 3 I)) (x_minus (v 1 I) (v 2 I))) l_nil)) (hw := by rw [env_sc I]; rfl))
  (ss_cons (s_for (vs := [4]) [4, 10, 11] I (i_seq (u_fn I h_all_rows (l_cons (v 0 I) (l_cons (v 1 I) l_nil)))) (g_name (i := 4) I rfl (loc_by rfl)) (ss_cons (s_set (i := 10) I rfl (loc_by rfl) (u_fn I h_near (l_cons (v 0 I) (l_cons (v 4 I) (l_cons (v 2 I) (l_cons (v 3 I) l_nil))))))
  (ss_cons (s_set (i := 5) I rfl (loc_by rfl) (x_add (v 5 I) (x_len I b_len (l_cons (v 10 I) l_nil))))
  (ss_cons (s_if (s' := ⟨none, []⟩) (b_bool (w_and (b_val (v 9 I)) (w_and1 (b_gt (x_len I b_len (l_cons (v 10 I) l_nil)) x_int)))) (ss_one (s_ret x_bl)) ss_nil)
  (ss_cons (s_set (i := 11) I rfl (loc_by rfl) (u_fn I h_story (l_cons (v 0 I) (l_cons (v 4 I) (l_cons (v 2 I) (l_cons (v 3 I) l_nil))))))
  (ss_cons (s_if (s' := ⟨none, []⟩) (b_bool (w_or (b_ne I (x_eq I (x_sub (v 11 I) x_int) x_str) (x_eq I (x_len I b_len (l_cons (v 10 I) l_nil)) x_int)) (w_or1 (b_ne I (x_eq I (x_sub (v 11 I) x_int) x_str) (x_gt (x_len I b_len (l_cons (x_new (n_toDict I b_dict (l_cons (x_new (n_comp [("row", 12)] I (i_seq (v 10 I)) (by decide +kernel) (fun _ _ I2 => (g_name (i := 12) I2 rfl (loc_by rfl))) (bd_name rfl) (fun _ _ I2 => t_nil) (fun _ _ I2 => (x_tup (l_cons (x_sub (v 12 I2) x_int) (l_cons x_bl l_nil)))))) l_nil))) l_nil)) x_int))))) (ss_one (s_ret x_bl)) ss_nil)
  (ss_cons (s_set (i := 6) I rfl (loc_by rfl) (x_add (v 6 I) (x_toInt I b_int (l_cons (x_eq I (x_sub (v 11 I) x_int) x_str) l_nil))))
  (ss_cons (s_if (s' := ⟨none, []⟩) (b_bool (w_and (b_eq I (x_sub (v 11 I) x_int) x_str) (w_and1 (b_ne I (x_sub (v 11 I) x_int) (x_sub (x_sub (v 10 I) x_int) x_int))))) (ss_one (s_ret x_bl)) ss_nil) (ss_nilW [4, 10, 11])))))))))
  (ss_one (s_ret (x_and (x_eq I (v 5 I) (x_times (v 7 I) (v 8 I))) (x_one (x_or (x_eq I (v 6 I) (v 5 I)) (x_one (x_not (v 9 I)))))))))))
theorem sc_dealt_words : FnScope ["prime", "length", "many", "rows", "turn", "longer", "row", "items", "at", "one"] ["prime", "length", "many"] (defScope s_dealt_words) := ⟨rfl, rfl, rfl, by decide +kernel, rfl, by decide +kernel, by decide +kernel⟩
abbrev g_dealt_words : SS :=
  (sSeq (sDrop (xCall F_check_prime (xCons (xVar 0) xNil)))
  (sSeq (sIf (bOr (bNot (bX (xCall F_is_within (xCons (xVar 1) (xCons (xC (.int 1)) (xCons (x2 subI (xVar 0) (xC (.int 1))) xNil)))))) (bNot (bX (xCall F_is_within (xCons (xVar 2) (xCons (xC (.int 0)) (xCons (x2 subI (xVar 1) (xC (.int 1))) xNil))))))) sNever sSkip)
  (sSeq (sAsg (xLst (xCons (xTup xNil) xNil)) (gN 3))
  (sSeq (sFor (xSrc range1 (xCons (x2 addA (xVar 2) (xC (.int 1))) xNil)) (gN 4) (sSeq (sNew (xLst xNil) 5)
  (sSeq (sFor (xSeq (xVar 3)) (gN 6) (sSeq (sExt 5 (xComp [9] (xSrc range1 (xCons (xVar 0) xNil)) (gN 9) bYes (x2 addA (xVar 6) (xTup (xCons (xVar 9) xNil))))) (sWipe [6])) [6])
  (sSeq (sAsg (xVar 5) (gN 3))
  (sSeq (sIf (bX (x2 gtI (xCall lenA (xCons (xVar 3) xNil)) (xC (.int 20000)))) sNever sSkip) (sWipe [4, 5, 6]))))) [4, 5, 6])
  (sRet (xComp [7] (xSeq (xVar 3)) (gN 7) bYes (xCall (op1 tupleD) (xCons (xComp [8] (xSrc range1 (xCons (xVar 1) xNil)) (gN 8) bYes (xCall F_worth (xCons (xVar 0) (xCons (xVar 7) (xCons (x2 addA (xVar 8) (xC (.int 1))) xNil))))) xNil))))))))
def F_dealt_words : List D → Option D := fnP 3 10 g_dealt_words
theorem ok_dealt_words {f : Addr} {fd : FuncData} (F : FunD K "dealt_words" "dealt_words" (defArgs s_dealt_words) (defBody s_dealt_words) (defScope s_dealt_words) [] [] f fd) (hm : mg "dealt_words" = some (.ref f)) (b_range : mg "range" = none) (b_tuple : mg "tuple" = none) (b_len : mg "len" = none) (h_check_prime : Kp P w K mg base 2 "check_prime" F_check_prime) (h_is_within : Kp P w K mg base 2 "is_within" F_is_within) (h_worth : Kp P w K mg base 4 "worth" F_worth) : Kp P w K mg base 5 "dealt_words" F_dealt_words :=
  kp_of F hm sc_dealt_words (F.bindsN fun _ _ _ _ _ _ us hl => match us, hl with | [_, _, _], _ => rfl) (g := g_dealt_words) fun X I =>
  (ss_cons (s_expr (u_fn I h_check_prime (l_cons (v 0 I) l_nil)))
  (ss_cons (s_if (s' := ⟨none, []⟩) (b_bool (w_or (b_not (b_val (u_fn I h_is_within (l_cons (v 1 I) (l_cons x_int (l_cons (x_minus (v 0 I) x_int) l_nil)))))) (w_or1 (b_not (b_val (u_fn I h_is_within (l_cons (v 2 I) (l_cons x_int (l_cons (x_minus (v 1 I) x_int) l_nil))))))))) ss_never ss_nil)
  (ss_cons (s_set (i := 3) I rfl (loc_by rfl) (x_lst (l_cons (x_tup l_nil) l_nil)))
  (ss_cons (s_for (vs := [4]) [4, 5, 6] I (i_range1 I rfl b_range (l_cons (x_add (v 2 I) x_int) l_nil)) (g_name (i := 4) I rfl (loc_by rfl)) (ss_cons (s_new (i := 5) I rfl (loc_by rfl) (n_lst l_nil))
  (ss_cons (s_for (vs := [6]) [6] I (i_seq (v 3 I)) (g_name (i := 6) I rfl (loc_by rfl)) (ss_cons (s_extend (i := 5) I rfl (vis_by rfl) (x_new (n_comp [("one", 9)] I (i_range1 I rfl b_range (l_cons (v 0 I) l_nil)) (by decide +kernel) (fun _ _ I4 => (g_name (i := 9) I4 rfl (loc_by rfl))) (bd_name rfl) (fun _ _ I4 => t_nil) (fun _ _ I4 => (x_add (v 6 I4) (x_tup (l_cons (v 9 I4) l_nil))))))) (ss_nilW [6])))
  (ss_cons (s_frz ⟨none, []⟩ (s_set (i := 3) I rfl (loc_by rfl) (v 5 I)))
  (ss_cons (s_if (s' := ⟨none, []⟩) (b_gt (x_len I b_len (l_cons (v 3 I) l_nil)) x_int) ss_never ss_nil) (ss_nilW [4, 5, 6]))))))
  (ss_one (s_ret (x_new (n_comp [("items", 7)] I (i_seq (v 3 I)) (by decide +kernel) (fun _ _ I5 => (g_name (i := 7) I5 rfl (loc_by rfl))) (bd_name rfl) (fun _ _ I5 => t_nil) (fun _ _ I5 => (x_toTup I5 b_tuple (l_cons (x_new (n_comp [("at", 8)] I5 (i_range1 I5 rfl b_range (l_cons (v 1 I5) l_nil)) (by decide +kernel) (fun _ _ I6 => (g_name (i := 8) I6 rfl (loc_by rfl))) (bd_name rfl) (fun _ _ I6 => t_nil) (fun _ _ I6 => (u_fn I6 h_worth (l_cons (v 0 I6) (l_cons (v 7 I6) (l_cons (x_add (v 8 I6) x_int) l_nil))))))) l_nil)))))))))))
theorem sc__law_weights : FnScope ["prime", "length", "many", "weight", "far", "found", "total", "at", "part"] ["prime", "length", "many"] (defScope s__law_weights) := ⟨rfl, rfl, rfl, by decide +kernel, rfl, by decide +kernel, by decide +kernel⟩
abbrev g__law_weights : SS :=
  (sSeq (sParXN 4 5 (x2 subI (xVar 1) (xVar 2)) (x2 addL (xLst (xCons (xC (.int 1)) xNil)) (x2 mulA (xLst (xCons (xC (.int 0)) xNil)) (xVar 1))))
  (sSeq (sFor (xSrc range2 (xCons (xVar 4) (xCons (x2 addA (xVar 1) (xC (.int 1))) xNil))) (gN 3) (sSeq (sAsg (xC (.int 0)) (gN 6))
  (sSeq (sFor (xSrc range1 (xCons (x2 addA (x2 subI (xVar 3) (xVar 4)) (xC (.int 1))) xNil)) (gN 7) (sSeq (sAsg (x2 mulA (xCall F__law_choose (xCons (xVar 3) (xCons (xVar 7) xNil))) (x2 subI (xCall F__law_power (xCons (xVar 0) (xCons (x2 subI (x2 addA (x2 subI (xVar 3) (xVar 4)) (xC (.int 1))) (xVar 7)) xNil))) (xC (.int 1)))) (gN 8))
  (sSeq (sAsg (x2 addA (xVar 6) (x2 mulA (xVar 8) (x2 subI (xC (.int 1)) (x2 mulA (xC (.int 2)) (xCall (op1 intD) (xCons (x2 eqD (x2 modI (xCall (op1 intD) (xCons (xVar 7) xNil)) (xC (.int 2))) (xC (.int 1))) xNil)))))) (gN 6)) (sWipe [7, 8]))) [7, 8])
  (sSeq (sSetI 5 (x2 mulA (xCall F__law_choose (xCons (xVar 1) (xCons (xVar 3) xNil))) (xVar 6)) (xVar 3)) (sWipe [3, 6, 7, 8])))) [3, 6, 7, 8])
  (sRet (xVar 5))))
def F__law_weights : List D → Option D := fnP 3 9 g__law_weights
theorem ok__law_weights {f : Addr} {fd : FuncData} (F : FunD K "_law_weights" "_law_weights" (defArgs s__law_weights) (defBody s__law_weights) (defScope s__law_weights) [] [] f fd) (hm : mg "_law_weights" = some (.ref f)) (b_range : mg "range" = none) (b_int : mg "int" = none) (h__law_choose : Kp P w K mg base 1 "_law_choose" F__law_choose) (h__law_power : Kp P w K mg base 1 "_law_power" F__law_power) : Kp P w K mg base 2 "_law_weights" F__law_weights :=
  kp_of F hm sc__law_weights (F.bindsN fun _ _ _ _ _ _ us hl => match us, hl with | [_, _, _], _ => rfl) (g := g__law_weights) fun X I =>
  (ss_cons (s_parXN (i := 4) (j := 5) I rfl rfl rfl rfl (x_minus (v 1 I) (v 2 I)) (n_add (x_lst (l_cons x_int l_nil)) (x_times (x_lst (l_cons x_int l_nil)) (v 1 I))) (hw := by rw [env_sc I]; rfl))
  (ss_cons (s_for (vs := [3]) [3, 6, 7, 8] I (i_range2 I rfl b_range (l_cons (v 4 I) (l_cons (x_add (v 1 I) x_int) l_nil))) (g_name (i := 3) I rfl (loc_by rfl)) (ss_cons (s_set (i := 6) I rfl (loc_by rfl) x_int)
  (ss_cons (s_for (vs := [7]) [7, 8] I (i_range1 I rfl b_range (l_cons (x_add (x_minus (v 3 I) (v 4 I)) x_int) l_nil)) (g_name (i := 7) I rfl (loc_by rfl)) (ss_cons (s_set (i := 8) I rfl (loc_by rfl) (x_times (u_fn I h__law_choose (l_cons (v 3 I) (l_cons (v 7 I) l_nil))) (x_minus (u_fn I h__law_power (l_cons (v 0 I) (l_cons (x_minus (x_add (x_minus (v 3 I) (v 4 I)) x_int) (v 7 I)) l_nil))) x_int)))
  (ss_cons (s_set (i := 6) I rfl (loc_by rfl) (x_add (v 6 I) (x_times (v 8 I) (x_minus x_int (x_times x_int (x_toInt I b_int (l_cons (x_eq I (x_mod (x_toInt I b_int (l_cons (v 7 I) l_nil)) x_int) x_int) l_nil))))))) (ss_nilW [7, 8]))))
  (ss_cons (s_setI (i := 5) I rfl (vis_by rfl) (x_times (u_fn I h__law_choose (l_cons (v 1 I) (l_cons (v 3 I) l_nil))) (v 6 I)) (v 3 I)) (ss_nilW [3, 6, 7, 8])))))
  (ss_one (s_frz ⟨none, []⟩ (s_ret (v 5 I))))))
theorem sc_least_gap : FnScope ["prime", "length", "many", "words", "one", "at"] ["prime", "length", "many"] (defScope s_least_gap) := ⟨rfl, rfl, rfl, by decide +kernel, rfl, by decide +kernel, by decide +kernel⟩
abbrev g_least_gap : SS :=
  (sSeq (sAsg (xCall F_dealt_words (xCons (xVar 0) (xCons (xVar 1) (xCons (xVar 2) xNil)))) (gN 3))
  (sRet (xCall (op1 minD) (xCons (xComp [4] (xSeq (xVar 3)) (gN 4) (bX (xCall anyA (xCons (xVar 4) xNil))) (xCall lenA (xCons (xComp [5] (xSrc range1 (xCons (xVar 1) xNil)) (gN 5) (bX (x2 neD (x2 ixD (xVar 4) (xVar 5)) (xC (.int 0)))) (xVar 5)) xNil))) xNil))))
def F_least_gap : List D → Option D := fnP 3 6 g_least_gap
theorem ok_least_gap {f : Addr} {fd : FuncData} (F : FunD K "least_gap" "least_gap" (defArgs s_least_gap) (defBody s_least_gap) (defScope s_least_gap) [] [] f fd) (hm : mg "least_gap" = some (.ref f)) (b_min : mg "min" = none) (b_len : mg "len" = none) (b_any : mg "any" = none) (b_range : mg "range" = none) (h_dealt_words : Kp P w K mg base 5 "dealt_words" F_dealt_words) : Kp P w K mg base 6 "least_gap" F_least_gap :=
  kp_of F hm sc_least_gap (F.bindsN fun _ _ _ _ _ _ us hl => match us, hl with | [_, _, _], _ => rfl) (g := g_least_gap) fun X I =>
  (ss_cons (s_set (i := 3) I rfl (loc_by rfl) (u_fn I h_dealt_words (l_cons (v 0 I) (l_cons (v 1 I) (l_cons (v 2 I) l_nil)))))
  (ss_one (s_ret (x_min I b_min (l_cons (x_new (n_comp [("one", 4)] I (i_seq (v 3 I)) (by decide +kernel) (fun _ _ I1 => (g_name (i := 4) I1 rfl (loc_by rfl))) (bd_name rfl) (fun _ _ I1 => (t_one (b_val (x_any I1 b_any (l_cons (v 4 I1) l_nil))))) (fun _ _ I1 => (x_len I1 b_len (l_cons (x_new (n_comp [("at", 5)] I1 (i_range1 I1 rfl b_range (l_cons (v 1 I1) l_nil)) (by decide +kernel) (fun _ _ I2 => (g_name (i := 5) I2 rfl (loc_by rfl))) (bd_name rfl) (fun _ _ I2 => (t_one (b_ne I2 (x_sub (v 4 I2) (v 5 I2)) x_int))) (fun _ _ I2 => (v 5 I2)))) l_nil))))) l_nil)))))
theorem sc__law_are_dealt_right : FnScope ["hand", "prime", "length", "many", "words", "every", "at", "counts", "word", "items", "far", "place", "value", "one", "other"] ["hand", "prime", "length", "many"] (defScope s__law_are_dealt_right) := ⟨rfl, rfl, rfl, by decide +kernel, rfl, by decide +kernel, by decide +kernel⟩
abbrev g__law_are_dealt_right : SS :=
  (sSeq (sAsg (xCall F_dealt_words (xCons (xVar 1) (xCons (xVar 2) (xCons (xVar 3) xNil)))) (gN 4))
  (sSeq (sAsg (xCall F_all_rows (xCons (xVar 1) (xCons (x2 addA (xVar 3) (xC (.int 1))) xNil))) (gN 5))
  (sSeq (sIf (bOr (bX (x2 neD (xCall lenA (xCons (xVar 4) xNil)) (xCall lenA (xCons (xVar 5) xNil)))) (bX (x2 neD (xCall F_least_gap (xCons (xVar 1) (xCons (xVar 2) (xCons (xVar 3) xNil)))) (x2 subI (xVar 2) (xVar 3))))) (sRet (xC (.bl false))) sSkip)
  (sSeq (sAsg (xIo F__law_draw (xCons (xCall lenA (xCons (xVar 4) xNil)) xNil)) (gN 6))
  (sSeq (sNew (x2 repL (xLst (xCons (xC (.int 0)) xNil)) (x2 addA (xVar 2) (xC (.int 1)))) 7)
  (sSeq (sFor (xSeq (xVar 4)) (gN 8) (sSeq (sAsg (xCall lenA (xCons (xComp [13, 14] (xSrc zipS (xCons (xVar 8) (xCons (x2 ixD (xVar 4) (xVar 6)) xNil))) (gTup (gCons (gN 13) (gCons (gN 14) gNil))) (bX (x2 neD (xVar 13) (xVar 14))) (xC (.int 1))) xNil)) (gN 10))
  (sSeq (sSetI 7 (x2 addA (x2O ixD 7 (xVar 10)) (xC (.int 1))) (xVar 10)) (sWipe [8, 10]))) [8, 10])
  (sSeq (sIf (bX (x2 neD (xVar 7) (xCall F__law_weights (xCons (xVar 1) (xCons (xVar 2) (xCons (xVar 3) xNil)))))) (sRet (xC (.bl false))) sSkip)
  (sSeq (sAsg (x2 ixD (xVar 5) (xVar 6)) (gN 9))
  (sSeq (sIf (bX (x2 neD (xCall (op1 tupleD) (xCons (x2 ixD (xVar 4) (xVar 6)) xNil)) (xCall (op1 tupleD) (xCons (xComp [11] (xSrc range1 (xCons (xVar 2) xNil)) (gN 11) bYes (xCall F_worth (xCons (xVar 1) (xCons (xVar 9) (xCons (x2 addA (xVar 11) (xC (.int 1))) xNil))))) xNil)))) (sRet (xC (.bl false))) sSkip)
  (sSeq (sAsg (xComp [11, 12] (xSrc enumS (xCons (x2 ixD (xVar 4) (xVar 6)) xNil)) (gTup (gCons (gN 11) (gCons (gN 12) gNil))) (bX (x2 neD (xVar 12) (x2 ixD (x2 ixD (xVar 4) (xC (.int 0))) (xVar 11)))) (xVar 11)) (gN 10))
  (sRet (xAnd (x2 eqD (xCall (op1 listD) (xCons (xCall F_unlike_places (xCons (xVar 1) (xCons (x2 ixD (xVar 4) (xVar 6)) (xCons (x2 mulA (xTup (xCons (xC (.int 0)) xNil)) (x2 addA (xVar 3) (xC (.int 1)))) xNil)))) xNil)) (xVar 10)) (x2 eqD (xCall (op1 listD) (xCons (xCall F_unlike_places (xCons (xVar 1) (xCons (x2 ixD (xVar 4) (xVar 6)) (xCons (xVar 9) xNil)))) xNil)) (xLst xNil))))))))))))))
def F__law_are_dealt_right : D → List D → Option (D × D) := fnI 4 15 g__law_are_dealt_right
theorem ok__law_are_dealt_right {f : Addr} {fd : FuncData} (F : FunD K "_law_are_dealt_right" "_law_are_dealt_right" (defArgs s__law_are_dealt_right) (defBody s__law_are_dealt_right) (defScope s__law_are_dealt_right) [] [] f fd) (hm : mg "_law_are_dealt_right" = some (.ref f)) (b_len : mg "len" = none) (b_tuple : mg "tuple" = none) (b_enumerate : mg "enumerate" = none) (b_list : mg "list" = none) (b_zip : mg "zip" = none) (b_range : mg "range" = none) (h_dealt_words : Kp P w K mg base 5 "dealt_words" F_dealt_words) (h_all_rows : Kp P w K mg base 3 "all_rows" F_all_rows) (h__law_draw : Ki P w K mg base 1 "_law_draw" F__law_draw) (h__law_weights : Kp P w K mg base 2 "_law_weights" F__law_weights) (h_least_gap : Kp P w K mg base 6 "least_gap" F_least_gap) (h_worth : Kp P w K mg base 4 "worth" F_worth) (h_unlike_places : Kp P w K mg base 5 "unlike_places" F_unlike_places) : Ki P w K mg base 7 "_law_are_dealt_right" F__law_are_dealt_right :=
  ki_of F hm sc__law_are_dealt_right (F.bindsN fun _ _ _ _ _ _ us hl => match us, hl with | [_, _, _, _], _ => rfl) (g := g__law_are_dealt_right) fun X I =>
  (ss_cons (s_set (i := 4) I rfl (loc_by rfl) (u_fn I h_dealt_words (l_cons (v 1 I) (l_cons (v 2 I) (l_cons (v 3 I) l_nil)))))
  (ss_cons (s_set (i := 5) I rfl (loc_by rfl) (u_fn I h_all_rows (l_cons (v 1 I) (l_cons (x_add (v 3 I) x_int) l_nil))))
  (ss_cons (s_if (s' := ⟨some 0, []⟩) (b_bool (w_or (b_ne I (x_len I b_len (l_cons (v 4 I) l_nil)) (x_len I b_len (l_cons (v 5 I) l_nil))) (w_or1 (b_ne I (u_fn I h_least_gap (l_cons (v 1 I) (l_cons (v 2 I) (l_cons (v 3 I) l_nil)))) (x_minus (v 2 I) (v 3 I)))))) (ss_one (s_ret x_bl)) ss_nil)
  (ss_cons (s_set (i := 6) I rfl (loc_by rfl) (u_io (i := 0) I h__law_draw rfl rfl (vis_by rfl) (l_cons (x_len I b_len (l_cons (v 4 I) l_nil)) l_nil)))
  (ss_cons (s_new (i := 7) I rfl (loc_by rfl) (n_times (x_lst (l_cons x_int l_nil)) (x_add (v 2 I) x_int)))
  (ss_cons (s_for (vs := [8]) [8, 10] I (i_seq (v 4 I)) (g_name (i := 8) I rfl (loc_by rfl)) (ss_cons (s_set (i := 10) I rfl (loc_by rfl) (x_len I b_len (l_cons (x_new (n_comp [("one", 13), ("other", 14)] I (i_zip I rfl b_zip (l_cons (v 8 I) (l_cons (x_sub (v 4 I) (v 6 I)) l_nil))) (by decide +kernel) (fun _ _ I2 => (g_tup I2 (gs_cons (g_name (i := 13) I2 rfl (loc_by rfl)) (gs_cons (g_name (i := 14) I2 rfl (loc_by rfl)) gs_nil)) (gCons_len (gCons_len gNil_len)))) (bd_tup (bds_cons (bd_name rfl) (bds_cons (bd_name rfl) bds_nil))) (fun _ _ I2 => (t_one (b_ne I2 (v 13 I2) (v 14 I2)))) (fun _ _ I2 => x_int))) l_nil)))
  (ss_cons (s_setI (i := 7) I rfl (vis_by rfl) (x_add (x_ownIx (i := 7) I rfl (vis_by rfl) ix_seq k_ixD (v 10 I)) x_int) (v 10 I)) (ss_nilW [8, 10]))))
  (ss_cons (s_frz ⟨some 0, []⟩ (s_if (s' := ⟨some 0, []⟩) (b_ne I (v 7 I) (u_fn I h__law_weights (l_cons (v 1 I) (l_cons (v 2 I) (l_cons (v 3 I) l_nil))))) (ss_one (s_ret x_bl)) ss_nil))
  (ss_cons (s_set (i := 9) I rfl (loc_by rfl) (x_sub (v 5 I) (v 6 I)))
  (ss_cons (s_if (s' := ⟨some 0, []⟩) (b_ne I (x_toTup I b_tuple (l_cons (x_sub (v 4 I) (v 6 I)) l_nil)) (x_toTup I b_tuple (l_cons (x_new (n_comp [("place", 11)] I (i_range1 I rfl b_range (l_cons (v 2 I) l_nil)) (by decide +kernel) (fun _ _ I3 => (g_name (i := 11) I3 rfl (loc_by rfl))) (bd_name rfl) (fun _ _ I3 => t_nil) (fun _ _ I3 => (u_fn I3 h_worth (l_cons (v 1 I3) (l_cons (v 9 I3) (l_cons (x_add (v 11 I3) x_int) l_nil))))))) l_nil))) (ss_one (s_ret x_bl)) ss_nil)
  (ss_cons (s_setC (i := 10) [("place", 11), ("value", 12)] I rfl rfl (i_enum I rfl b_enumerate (l_cons (x_sub (v 4 I) (v 6 I)) l_nil)) (by decide +kernel) (fun _ _ I4 => (g_tup I4 (gs_cons (g_name (i := 11) I4 rfl (loc_by rfl)) (gs_cons (g_name (i := 12) I4 rfl (loc_by rfl)) gs_nil)) (gCons_len (gCons_len gNil_len)))) (bd_tup (bds_cons (bd_name rfl) (bds_cons (bd_name rfl) bds_nil))) (fun _ _ I4 => (t_one (b_ne I4 (v 12 I4) (x_sub (x_sub (v 4 I4) x_int) (v 11 I4))))) (fun _ _ I4 => (v 11 I4)))
  (ss_one (s_ret (x_and (x_eq I (x_new (n_toLst I b_list (l_cons (u_fn I h_unlike_places (l_cons (v 1 I) (l_cons (x_sub (v 4 I) (v 6 I)) (l_cons (x_times (x_tup (l_cons x_int l_nil)) (x_add (v 3 I) x_int)) l_nil)))) l_nil))) (v 10 I)) (x_one (x_eq I (x_new (n_toLst I b_list (l_cons (u_fn I h_unlike_places (l_cons (v 1 I) (l_cons (x_sub (v 4 I) (v 6 I)) (l_cons (v 9 I) l_nil)))) l_nil))) (x_lst l_nil))))))))))))))))
theorem sc_law : FnScope ["script", "hand", "prime", "length", "many", "wrong"] ["script"] (defScope s_law) := ⟨rfl, rfl, rfl, by decide +kernel, rfl, by decide +kernel, by decide +kernel⟩
abbrev g_law : SS :=
  (sSeq (sIoNew (xCall F__law_hand (xCons (xVar 0) xNil)) 1)
  (sSeq (sAsg (xIo F__law_any (xCons (xLst (xCons (xTup (xCons (xC (.int 5)) (xCons (xC (.int 3)) (xCons (xC (.int 1)) xNil)))) (xCons (xTup (xCons (xC (.int 5)) (xCons (xC (.int 4)) (xCons (xC (.int 1)) xNil)))) (xCons (xTup (xCons (xC (.int 5)) (xCons (xC (.int 4)) (xCons (xC (.int 2)) xNil)))) (xCons (xTup (xCons (xC (.int 7)) (xCons (xC (.int 4)) (xCons (xC (.int 1)) xNil)))) (xCons (xTup (xCons (xC (.int 7)) (xCons (xC (.int 5)) (xCons (xC (.int 2)) xNil)))) (xCons (xTup (xCons (xC (.int 7)) (xCons (xC (.int 6)) (xCons (xC (.int 1)) xNil)))) (xCons (xTup (xCons (xC (.int 5)) (xCons (xC (.int 3)) (xCons (xC (.int 2)) xNil)))) xNil)))))))) xNil)) (gTup (gCons (gN 2) (gCons (gN 3) (gCons (gN 4) gNil)))))
  (sSeq (sIf (bNot (bX (xIo F__law_are_dealt_right (xCons (xVar 2) (xCons (xVar 3) (xCons (xVar 4) xNil)))))) (sRet (xC (.bl false))) sSkip)
  (sSeq (sAsg (xIo F__law_any (xCons (xLst (xCons (xTup (xCons (xC (.int 5)) (xCons (xC (.int 3)) (xCons (xC (.int 0)) (xCons (xC (.int 1)) xNil))))) (xCons (xTup (xCons (xC (.int 5)) (xCons (xC (.int 3)) (xCons (xC (.int 1)) (xCons (xC (.int 1)) xNil))))) (xCons (xTup (xCons (xC (.int 5)) (xCons (xC (.int 2)) (xCons (xC (.int 0)) (xCons (xC (.int 1)) xNil))))) (xCons (xTup (xCons (xC (.int 7)) (xCons (xC (.int 2)) (xCons (xC (.int 0)) (xCons (xC (.int 1)) xNil))))) (xCons (xTup (xCons (xC (.int 5)) (xCons (xC (.int 3)) (xCons (xC (.int 0)) (xCons (xC (.int 2)) xNil))))) (xCons (xTup (xCons (xC (.int 3)) (xCons (xC (.int 2)) (xCons (xC (.int 0)) (xCons (xC (.int 1)) xNil))))) (xCons (xTup (xCons (xC (.int 7)) (xCons (xC (.int 2)) (xCons (xC (.int 0)) (xCons (xC (.int 0)) xNil))))) xNil)))))))) xNil)) (gTup (gCons (gN 2) (gCons (gN 3) (gCons (gN 4) (gCons (gN 5) gNil))))))
  (sRet (xCall F__law_are_near_right (xCons (xVar 2) (xCons (xVar 3) (xCons (xVar 4) (xCons (xVar 5) xNil))))))))))
def F_law : List D → Option D := fnP 1 6 g_law
theorem ok_law {f : Addr} {fd : FuncData} (F : FunD K "law" "law" (defArgs s_law) (defBody s_law) (defScope s_law) [] [] f fd) (h__law_hand : Kn P w K mg base 1 "_law_hand" F__law_hand) (h__law_any : Ki P w K mg base 2 "_law_any" F__law_any) (h__law_are_near_right : Kp P w K mg base 8 "_law_are_near_right" F__law_are_near_right) (h__law_are_dealt_right : Ki P w K mg base 7 "_law_are_dealt_right" F__law_are_dealt_right) : OkP P w K mg base 9 f fd ["script"] F_law :=
  okP (ps := ["script"]) (M := ["script", "hand", "prime", "length", "many", "wrong"]) (s' := s0) (sl := s0) F sc_law (F.bindsN fun _ _ _ _ _ _ us hl => match us, hl with | [_], _ => rfl) (g := g_law) fun X I =>
  (ss_cons (s_ioNew (i := 1) I rfl (loc_by rfl) (u_fnN I h__law_hand (l_cons (v 0 I) l_nil)))
  (ss_cons (s_asg (vs := [2, 3, 4]) (u_io (i := 1) I h__law_any rfl rfl (vis_by rfl) (l_cons (x_lst (l_cons (x_tup (l_cons x_int (l_cons x_int (l_cons x_int l_nil)))) (l_cons (x_tup (l_cons x_int (l_cons x_int (l_cons x_int l_nil)))) (l_cons (x_tup (l_cons x_int (l_cons x_int (l_cons x_int l_nil)))) (l_cons (x_tup (l_cons x_int (l_cons x_int (l_cons x_int l_nil)))) (l_cons (x_tup (l_cons x_int (l_cons x_int (l_cons x_int l_nil)))) (l_cons (x_tup (l_cons x_int (l_cons x_int (l_cons x_int l_nil)))) (l_cons (x_tup (l_cons x_int (l_cons x_int (l_cons x_int l_nil)))) l_nil)))))))) l_nil)) (g_tup I (gs_cons (g_name (i := 2) I rfl (loc_by rfl)) (gs_cons (g_name (i := 3) I rfl (loc_by rfl)) (gs_cons (g_name (i := 4) I rfl (loc_by rfl)) gs_nil))) (gCons_len (gCons_len (gCons_len gNil_len)))))
  (ss_cons (s_if (s' := ⟨some 1, []⟩) (b_not (b_val (u_io (i := 1) I h__law_are_dealt_right rfl rfl (vis_by rfl) (l_cons (v 2 I) (l_cons (v 3 I) (l_cons (v 4 I) l_nil)))))) (ss_one (s_ret x_bl)) ss_nil)
  (ss_cons (s_asg (vs := [2, 3, 4, 5]) (u_io (i := 1) I h__law_any rfl rfl (vis_by rfl) (l_cons (x_lst (l_cons (x_tup (l_cons x_int (l_cons x_int (l_cons x_int (l_cons x_int l_nil))))) (l_cons (x_tup (l_cons x_int (l_cons x_int (l_cons x_int (l_cons x_int l_nil))))) (l_cons (x_tup (l_cons x_int (l_cons x_int (l_cons x_int (l_cons x_int l_nil))))) (l_cons (x_tup (l_cons x_int (l_cons x_int (l_cons x_int (l_cons x_int l_nil))))) (l_cons (x_tup (l_cons x_int (l_cons x_int (l_cons x_int (l_cons x_int l_nil))))) (l_cons (x_tup (l_cons x_int (l_cons x_int (l_cons x_int (l_cons x_int l_nil))))) (l_cons (x_tup (l_cons x_int (l_cons x_int (l_cons x_int (l_cons x_int l_nil))))) l_nil)))))))) l_nil)) (g_tup I (gs_cons (g_name (i := 2) I rfl (loc_by rfl)) (gs_cons (g_name (i := 3) I rfl (loc_by rfl)) (gs_cons (g_name (i := 4) I rfl (loc_by rfl)) (gs_cons (g_name (i := 5) I rfl (loc_by rfl)) gs_nil)))) (gCons_len (gCons_len (gCons_len (gCons_len gNil_len))))))
  (ss_one (s_ret (u_fn I h__law_are_near_right (l_cons (v 2 I) (l_cons (v 3 I) (l_cons (v 4 I) (l_cons (v 5 I) l_nil)))))))))))
end
end My


namespace My
open PySem PySem.Spec PyProof.Rows L2 PL
def dd__law_hand : He.DefD := ⟨("_law_hand", none), "_law_hand", "_law_hand", defArgs s__law_hand, defBody s__law_hand, defScope s__law_hand, [], []⟩
def dd__law_draw : He.DefD := ⟨("_law_draw", none), "_law_draw", "_law_draw", defArgs s__law_draw, defBody s__law_draw, defScope s__law_draw, [], []⟩
def dd__law_any : He.DefD := ⟨("_law_any", none), "_law_any", "_law_any", defArgs s__law_any, defBody s__law_any, defScope s__law_any, [], []⟩
def dd_is_integer : He.DefD := ⟨("is_integer", none), "is_integer", "is_integer", defArgs s_is_integer, defBody s_is_integer, defScope s_is_integer, [], []⟩
def dd_check_prime : He.DefD := ⟨("check_prime", none), "check_prime", "check_prime", defArgs s_check_prime, defBody s_check_prime, defScope s_check_prime, [], []⟩
def dd_is_within : He.DefD := ⟨("is_within", none), "is_within", "is_within", defArgs s_is_within, defBody s_is_within, defScope s_is_within, [], []⟩
def dd_all_rows : He.DefD := ⟨("all_rows", none), "all_rows", "all_rows", defArgs s_all_rows, defBody s_all_rows, defScope s_all_rows, [], []⟩
def dd__law_power : He.DefD := ⟨("_law_power", none), "_law_power", "_law_power", defArgs s__law_power, defBody s__law_power, defScope s__law_power, [], []⟩
def dd__law_choose : He.DefD := ⟨("_law_choose", none), "_law_choose", "_law_choose", defArgs s__law_choose, defBody s__law_choose, defScope s__law_choose, [], []⟩
def dd__law_about : He.DefD := ⟨("_law_about", none), "_law_about", "_law_about", defArgs s__law_about, defBody s__law_about, defScope s__law_about, [], []⟩
def dd_is_row : He.DefD := ⟨("is_row", none), "is_row", "is_row", defArgs s_is_row, defBody s_is_row, defScope s_is_row, [], []⟩
def dd_check_values : He.DefD := ⟨("check_values", none), "check_values", "check_values", defArgs s_check_values, defBody s_check_values, defScope s_check_values, [], []⟩
def dd_check_word : He.DefD := ⟨("check_word", none), "check_word", "check_word", defArgs s_check_word, defBody s_check_word, defScope s_check_word, [], []⟩
def dd_lots : He.DefD := ⟨("lots", none), "lots", "lots", defArgs s_lots, defBody s_lots, defScope s_lots, [], []⟩
def dd_check_places : He.DefD := ⟨("check_places", none), "check_places", "check_places", defArgs s_check_places, defBody s_check_places, defScope s_check_places, [], []⟩
def dd_times_root : He.DefD := ⟨("times_root", none), "times_root", "times_root", defArgs s_times_root, defBody s_times_root, defScope s_times_root, [], []⟩
def dd_power : He.DefD := ⟨("power", none), "power", "power", defArgs s_power, defBody s_power, defScope s_power, [], []⟩
def dd_through : He.DefD := ⟨("through", none), "through", "through", defArgs s_through, defBody s_through, defScope s_through, [], []⟩
def dd_is_value : He.DefD := ⟨("is_value", none), "is_value", "is_value", defArgs s_is_value, defBody s_is_value, defScope s_is_value, [], []⟩
def dd_worth : He.DefD := ⟨("worth", none), "worth", "worth", defArgs s_worth, defBody s_worth, defScope s_worth, [], []⟩
def dd_unlike_places : He.DefD := ⟨("unlike_places", none), "unlike_places", "unlike_places", defArgs s_unlike_places, defBody s_unlike_places, defScope s_unlike_places, [], []⟩
def dd_near : He.DefD := ⟨("near", none), "near", "near", defArgs s_near, defBody s_near, defScope s_near, [], []⟩
def dd_common_wrong : He.DefD := ⟨("common_wrong", none), "common_wrong", "common_wrong", defArgs s_common_wrong, defBody s_common_wrong, defScope s_common_wrong, [], []⟩
def dd_story : He.DefD := ⟨("story", none), "story", "story", defArgs s_story, defBody s_story, defScope s_story, [], []⟩
def dd__law_are_near_right : He.DefD := ⟨("_law_are_near_right", none), "_law_are_near_right", "_law_are_near_right", defArgs s__law_are_near_right, defBody s__law_are_near_right, defScope s__law_are_near_right, [], []⟩
def dd_dealt_words : He.DefD := ⟨("dealt_words", none), "dealt_words", "dealt_words", defArgs s_dealt_words, defBody s_dealt_words, defScope s_dealt_words, [], []⟩
def dd__law_weights : He.DefD := ⟨("_law_weights", none), "_law_weights", "_law_weights", defArgs s__law_weights, defBody s__law_weights, defScope s__law_weights, [], []⟩
def dd_least_gap : He.DefD := ⟨("least_gap", none), "least_gap", "least_gap", defArgs s_least_gap, defBody s_least_gap, defScope s_least_gap, [], []⟩
def dd__law_are_dealt_right : He.DefD := ⟨("_law_are_dealt_right", none), "_law_are_dealt_right", "_law_are_dealt_right", defArgs s__law_are_dealt_right, defBody s__law_are_dealt_right, defScope s__law_are_dealt_right, [], []⟩
def dd_law : He.DefD := ⟨("law", none), "law", "law", defArgs s_law, defBody s_law, defScope s_law, [], []⟩
def fn : List He.DefD := ([dd__law_hand, dd__law_draw, dd__law_any, dd_is_integer, dd_check_prime, dd_is_within, dd_all_rows, dd__law_power, dd__law_choose, dd__law_about, dd_is_row, dd_check_values, dd_check_word, dd_lots, dd_check_places, dd_times_root, dd_power, dd_through, dd_is_value, dd_worth, dd_unlike_places, dd_near, dd_common_wrong, dd_story, dd__law_are_near_right, dd_dealt_words, dd__law_weights, dd_least_gap, dd__law_are_dealt_right, dd_law] : List He.DefD)
def fa : List He.Fa := ([.glo "_law_hand", .glo "_law_draw", .glo "_law_any", .glo "is_integer", .glo "check_prime", .glo "is_within", .glo "all_rows", .glo "_law_power", .glo "_law_choose", .glo "_law_about", .glo "is_row", .glo "check_values", .glo "check_word", .glo "lots", .glo "check_places", .glo "times_root", .glo "power", .glo "through", .glo "is_value", .glo "worth", .glo "unlike_places", .glo "near", .glo "common_wrong", .glo "story", .glo "_law_are_near_right", .glo "dealt_words", .glo "_law_weights", .glo "least_gap", .glo "_law_are_dealt_right", .glo "law"] : List He.Fa) ++ ([.free "int", .free "abs", .free "len", .free "isinstance", .free "bool", .free "range", .free "sum", .free "list", .free "tuple", .free "all", .free "sorted", .free "set", .free "enumerate", .free "zip", .free "dict", .free "min", .free "any", .glo "PRIMES"] : List He.Fa)
def ex (K : PySem.W.Frag) : Bool := (He.tupB K "PRIMES" (([2, 3, 5, 7, 11, 13] : List Int).map He.Dv.int))
abbrev R : PySem.W.OpenRow := PySem.W.OpenLaw.row PySem.Challenge.rw_handsights_k05_whole_words_counted_by_th
abbrev hk : PySem.W.Hook := hookY 4 fa fn ex
def ob (s : PySem.W.SharedT) : Bool × He.AlD := obsY 4 fa fn ex (HandSHeadRun.getT s)
theorem ob_eq (s : PySem.W.SharedT) : ob s = hk.obs s.abs := obsY_eq (HandSHeadRun.getT_eq s)
def loose : List PySem.Str := (["SightError", "NoPrime", "NoNumber", "NoRow", "PRIMES", "is_integer", "is_within", "is_row", "check_prime", "is_value", "check_values", "power", "worth", "check_places", "through", "times_root", "all_rows", "check_word", "unlike_places", "near", "lots", "story", "common_wrong", "dealt_words", "least_gap", "_law_hand", "_law_draw", "_law_any", "_law_is", "_law_order"] : List PySem.Str) ++ (["_law_power", "_law_choose", "_law_weights", "_law_about", "_law_are_dealt_right", "_law_are_near_right"] : List PySem.Str)
theorem run (w : World) : HandSHeadRun.RunEq R (PySem.W.view R.prog [40]) hk ob 2100 loose w := by
  intro os
  kernel_rfl
theorem facts {P : Program} {w : World} {K : PySem.W.Frag} {h : Heap} {mg : Str → Option Value} {f : Addr} (X : K.In h) (G : h.Ns mainGlobals mg) (hfa : mg ("law" : Str) = some (.ref f)) (c : He.SaysD fa fn K) (cx : ex K = true) :
    ∃ fd : FuncData, (∀ (s : Shared) (v : Value), BindsTo s fd ⟨[v], []⟩ [("script", v)]) ∧ ∀ base : Heap, K.In base → base.Ns mainGlobals mg → FnOk P w K mg base CX0 9 f fd ["script"] (spP K 1 F_law) := by
  have c_PRIMES : Kc K mg "PRIMES" d_PRIMES := kc_ints (ns := [2, 3, 5, 7, 11, 13]) (He.glo_ok X G (c.fact 47 (f := .glo "PRIMES") rfl)) cx
  have b_int : mg "int" = none := He.free_ok X G (c.fact 30 (f := .free "int") rfl)
  have b_abs : mg "abs" = none := He.free_ok X G (c.fact 31 (f := .free "abs") rfl)
  have b_len : mg "len" = none := He.free_ok X G (c.fact 32 (f := .free "len") rfl)
  have b_isinstance : mg "isinstance" = none := He.free_ok X G (c.fact 33 (f := .free "isinstance") rfl)
  have b_bool : mg "bool" = none := He.free_ok X G (c.fact 34 (f := .free "bool") rfl)
  have b_range : mg "range" = none := He.free_ok X G (c.fact 35 (f := .free "range") rfl)
  have b_sum : mg "sum" = none := He.free_ok X G (c.fact 36 (f := .free "sum") rfl)
  have b_list : mg "list" = none := He.free_ok X G (c.fact 37 (f := .free "list") rfl)
  have b_tuple : mg "tuple" = none := He.free_ok X G (c.fact 38 (f := .free "tuple") rfl)
  have b_all : mg "all" = none := He.free_ok X G (c.fact 39 (f := .free "all") rfl)
  have b_sorted : mg "sorted" = none := He.free_ok X G (c.fact 40 (f := .free "sorted") rfl)
  have b_set : mg "set" = none := He.free_ok X G (c.fact 41 (f := .free "set") rfl)
  have b_enumerate : mg "enumerate" = none := He.free_ok X G (c.fact 42 (f := .free "enumerate") rfl)
  have b_zip : mg "zip" = none := He.free_ok X G (c.fact 43 (f := .free "zip") rfl)
  have b_dict : mg "dict" = none := He.free_ok X G (c.fact 44 (f := .free "dict") rfl)
  have b_min : mg "min" = none := He.free_ok X G (c.fact 45 (f := .free "min") rfl)
  have b_any : mg "any" = none := He.free_ok X G (c.fact 46 (f := .free "any") rfl)
  obtain ⟨fd__law_hand, D__law_hand⟩ := c.def_ 0 (d := dd__law_hand) rfl
  have m__law_hand : mg "_law_hand" = some (.ref (He.ga K "_law_hand")) := He.glo_ok X G (c.fact 0 (f := .glo "_law_hand") rfl)
  obtain ⟨fd__law_draw, D__law_draw⟩ := c.def_ 1 (d := dd__law_draw) rfl
  have m__law_draw : mg "_law_draw" = some (.ref (He.ga K "_law_draw")) := He.glo_ok X G (c.fact 1 (f := .glo "_law_draw") rfl)
  obtain ⟨fd__law_any, D__law_any⟩ := c.def_ 2 (d := dd__law_any) rfl
  have m__law_any : mg "_law_any" = some (.ref (He.ga K "_law_any")) := He.glo_ok X G (c.fact 2 (f := .glo "_law_any") rfl)
  obtain ⟨fd_is_integer, D_is_integer⟩ := c.def_ 3 (d := dd_is_integer) rfl
  have m_is_integer : mg "is_integer" = some (.ref (He.ga K "is_integer")) := He.glo_ok X G (c.fact 3 (f := .glo "is_integer") rfl)
  obtain ⟨fd_check_prime, D_check_prime⟩ := c.def_ 4 (d := dd_check_prime) rfl
  have m_check_prime : mg "check_prime" = some (.ref (He.ga K "check_prime")) := He.glo_ok X G (c.fact 4 (f := .glo "check_prime") rfl)
  obtain ⟨fd_is_within, D_is_within⟩ := c.def_ 5 (d := dd_is_within) rfl
  have m_is_within : mg "is_within" = some (.ref (He.ga K "is_within")) := He.glo_ok X G (c.fact 5 (f := .glo "is_within") rfl)
  obtain ⟨fd_all_rows, D_all_rows⟩ := c.def_ 6 (d := dd_all_rows) rfl
  have m_all_rows : mg "all_rows" = some (.ref (He.ga K "all_rows")) := He.glo_ok X G (c.fact 6 (f := .glo "all_rows") rfl)
  obtain ⟨fd__law_power, D__law_power⟩ := c.def_ 7 (d := dd__law_power) rfl
  have m__law_power : mg "_law_power" = some (.ref (He.ga K "_law_power")) := He.glo_ok X G (c.fact 7 (f := .glo "_law_power") rfl)
  obtain ⟨fd__law_choose, D__law_choose⟩ := c.def_ 8 (d := dd__law_choose) rfl
  have m__law_choose : mg "_law_choose" = some (.ref (He.ga K "_law_choose")) := He.glo_ok X G (c.fact 8 (f := .glo "_law_choose") rfl)
  obtain ⟨fd__law_about, D__law_about⟩ := c.def_ 9 (d := dd__law_about) rfl
  have m__law_about : mg "_law_about" = some (.ref (He.ga K "_law_about")) := He.glo_ok X G (c.fact 9 (f := .glo "_law_about") rfl)
  obtain ⟨fd_is_row, D_is_row⟩ := c.def_ 10 (d := dd_is_row) rfl
  have m_is_row : mg "is_row" = some (.ref (He.ga K "is_row")) := He.glo_ok X G (c.fact 10 (f := .glo "is_row") rfl)
  obtain ⟨fd_check_values, D_check_values⟩ := c.def_ 11 (d := dd_check_values) rfl
  have m_check_values : mg "check_values" = some (.ref (He.ga K "check_values")) := He.glo_ok X G (c.fact 11 (f := .glo "check_values") rfl)
  obtain ⟨fd_check_word, D_check_word⟩ := c.def_ 12 (d := dd_check_word) rfl
  have m_check_word : mg "check_word" = some (.ref (He.ga K "check_word")) := He.glo_ok X G (c.fact 12 (f := .glo "check_word") rfl)
  obtain ⟨fd_lots, D_lots⟩ := c.def_ 13 (d := dd_lots) rfl
  have m_lots : mg "lots" = some (.ref (He.ga K "lots")) := He.glo_ok X G (c.fact 13 (f := .glo "lots") rfl)
  obtain ⟨fd_check_places, D_check_places⟩ := c.def_ 14 (d := dd_check_places) rfl
  have m_check_places : mg "check_places" = some (.ref (He.ga K "check_places")) := He.glo_ok X G (c.fact 14 (f := .glo "check_places") rfl)
  obtain ⟨fd_times_root, D_times_root⟩ := c.def_ 15 (d := dd_times_root) rfl
  have m_times_root : mg "times_root" = some (.ref (He.ga K "times_root")) := He.glo_ok X G (c.fact 15 (f := .glo "times_root") rfl)
  obtain ⟨fd_power, D_power⟩ := c.def_ 16 (d := dd_power) rfl
  have m_power : mg "power" = some (.ref (He.ga K "power")) := He.glo_ok X G (c.fact 16 (f := .glo "power") rfl)
  obtain ⟨fd_through, D_through⟩ := c.def_ 17 (d := dd_through) rfl
  have m_through : mg "through" = some (.ref (He.ga K "through")) := He.glo_ok X G (c.fact 17 (f := .glo "through") rfl)
  obtain ⟨fd_is_value, D_is_value⟩ := c.def_ 18 (d := dd_is_value) rfl
  have m_is_value : mg "is_value" = some (.ref (He.ga K "is_value")) := He.glo_ok X G (c.fact 18 (f := .glo "is_value") rfl)
  obtain ⟨fd_worth, D_worth⟩ := c.def_ 19 (d := dd_worth) rfl
  have m_worth : mg "worth" = some (.ref (He.ga K "worth")) := He.glo_ok X G (c.fact 19 (f := .glo "worth") rfl)
  obtain ⟨fd_unlike_places, D_unlike_places⟩ := c.def_ 20 (d := dd_unlike_places) rfl
  have m_unlike_places : mg "unlike_places" = some (.ref (He.ga K "unlike_places")) := He.glo_ok X G (c.fact 20 (f := .glo "unlike_places") rfl)
  obtain ⟨fd_near, D_near⟩ := c.def_ 21 (d := dd_near) rfl
  have m_near : mg "near" = some (.ref (He.ga K "near")) := He.glo_ok X G (c.fact 21 (f := .glo "near") rfl)
  obtain ⟨fd_common_wrong, D_common_wrong⟩ := c.def_ 22 (d := dd_common_wrong) rfl
  have m_common_wrong : mg "common_wrong" = some (.ref (He.ga K "common_wrong")) := He.glo_ok X G (c.fact 22 (f := .glo "common_wrong") rfl)
  obtain ⟨fd_story, D_story⟩ := c.def_ 23 (d := dd_story) rfl
  have m_story : mg "story" = some (.ref (He.ga K "story")) := He.glo_ok X G (c.fact 23 (f := .glo "story") rfl)
  obtain ⟨fd__law_are_near_right, D__law_are_near_right⟩ := c.def_ 24 (d := dd__law_are_near_right) rfl
  have m__law_are_near_right : mg "_law_are_near_right" = some (.ref (He.ga K "_law_are_near_right")) := He.glo_ok X G (c.fact 24 (f := .glo "_law_are_near_right") rfl)
  obtain ⟨fd_dealt_words, D_dealt_words⟩ := c.def_ 25 (d := dd_dealt_words) rfl
  have m_dealt_words : mg "dealt_words" = some (.ref (He.ga K "dealt_words")) := He.glo_ok X G (c.fact 25 (f := .glo "dealt_words") rfl)
  obtain ⟨fd__law_weights, D__law_weights⟩ := c.def_ 26 (d := dd__law_weights) rfl
  have m__law_weights : mg "_law_weights" = some (.ref (He.ga K "_law_weights")) := He.glo_ok X G (c.fact 26 (f := .glo "_law_weights") rfl)
  obtain ⟨fd_least_gap, D_least_gap⟩ := c.def_ 27 (d := dd_least_gap) rfl
  have m_least_gap : mg "least_gap" = some (.ref (He.ga K "least_gap")) := He.glo_ok X G (c.fact 27 (f := .glo "least_gap") rfl)
  obtain ⟨fd__law_are_dealt_right, D__law_are_dealt_right⟩ := c.def_ 28 (d := dd__law_are_dealt_right) rfl
  have m__law_are_dealt_right : mg "_law_are_dealt_right" = some (.ref (He.ga K "_law_are_dealt_right")) := He.glo_ok X G (c.fact 28 (f := .glo "_law_are_dealt_right") rfl)
  obtain ⟨fd_law, D_law⟩ := c.def_ 29 (d := dd_law) rfl
  have e := hfa.symm.trans (He.glo_ok X G (c.fact 29 (f := .glo "law") rfl))
  cases e
  have b := FunD.bindsA (ps := ["script"]) D_law fun _ _ _ _ _ _ us hl => match us, hl with | [_], _ => rfl
  refine ⟨fd_law, fun s v => b s [v] rfl, fun base _ _ => ?_⟩
  have h__law_hand : Kn P w K mg base 1 "_law_hand" F__law_hand := ok__law_hand D__law_hand m__law_hand b_int b_abs b_len
  have h__law_draw : Ki P w K mg base 1 "_law_draw" F__law_draw := ok__law_draw D__law_draw m__law_draw b_int b_len
  have h__law_any : Ki P w K mg base 2 "_law_any" F__law_any := ok__law_any D__law_any m__law_any b_len h__law_draw
  have h_is_integer : Kp P w K mg base 1 "is_integer" F_is_integer := ok_is_integer D_is_integer m_is_integer b_isinstance b_int b_bool
  have h_check_prime : Kp P w K mg base 2 "check_prime" F_check_prime := ok_check_prime D_check_prime m_check_prime c_PRIMES h_is_integer
  have h_is_within : Kp P w K mg base 2 "is_within" F_is_within := ok_is_within D_is_within m_is_within h_is_integer
  have h_all_rows : Kp P w K mg base 3 "all_rows" F_all_rows := ok_all_rows D_all_rows m_all_rows b_range b_len h_check_prime h_is_within
  have h__law_power : Kp P w K mg base 1 "_law_power" F__law_power := ok__law_power D__law_power m__law_power b_range
  have h__law_choose : Kp P w K mg base 1 "_law_choose" F__law_choose := ok__law_choose D__law_choose m__law_choose b_range
  have h__law_about : Kp P w K mg base 2 "_law_about" F__law_about := ok__law_about D__law_about m__law_about b_sum b_range h__law_choose h__law_power
  have h_is_row : Kp P w K mg base 1 "is_row" F_is_row := ok_is_row D_is_row m_is_row b_isinstance b_list b_tuple
  have h_check_values : Kp P w K mg base 3 "check_values" F_check_values := ok_check_values D_check_values m_check_values b_all h_check_prime h_is_row h_is_within
  have h_check_word : Kp P w K mg base 4 "check_word" F_check_word := ok_check_word D_check_word m_check_word b_len h_check_prime h_check_values h_is_within
  have h_lots : Kp P w K mg base 1 "lots" F_lots := ok_lots D_lots m_lots b_range b_sorted b_len
  have h_check_places : Kp P w K mg base 4 "check_places" F_check_places := ok_check_places D_check_places m_check_places b_len b_set h_check_values
  have h_times_root : Kp P w K mg base 1 "times_root" F_times_root := ok_times_root D_times_root m_times_root b_enumerate b_list b_int
  have h_power : Kp P w K mg base 3 "power" F_power := ok_power D_power m_power b_range b_int h_check_prime h_is_integer h_is_within
  have h_through : Kp P w K mg base 5 "through" F_through := ok_through D_through m_through b_tuple b_len b_all b_int b_zip h_check_places h_check_values h_is_row h_times_root h_power
  have h_is_value : Kp P w K mg base 3 "is_value" F_is_value := ok_is_value D_is_value m_is_value h_check_prime h_is_within
  have h_worth : Kp P w K mg base 4 "worth" F_worth := ok_worth D_worth m_worth b_list b_int h_check_values h_is_value
  have h_unlike_places : Kp P w K mg base 5 "unlike_places" F_unlike_places := ok_unlike_places D_unlike_places m_unlike_places b_tuple b_enumerate h_worth
  have h_near : Kp P w K mg base 6 "near" F_near := ok_near D_near m_near b_sorted b_len h_check_word h_lots h_is_within h_through h_unlike_places
  have h_common_wrong : Kp P w K mg base 6 "common_wrong" F_common_wrong := ok_common_wrong D_common_wrong m_common_wrong b_tuple b_all h_unlike_places
  have h_story : Kp P w K mg base 7 "story" F_story := ok_story D_story m_story h_near h_common_wrong
  have h__law_are_near_right : Kp P w K mg base 8 "_law_are_near_right" F__law_are_near_right := ok__law_are_near_right D__law_are_near_right m__law_are_near_right b_len b_int b_dict h_all_rows h__law_power h__law_about h_near h_story
  have h_dealt_words : Kp P w K mg base 5 "dealt_words" F_dealt_words := ok_dealt_words D_dealt_words m_dealt_words b_range b_tuple b_len h_check_prime h_is_within h_worth
  have h__law_weights : Kp P w K mg base 2 "_law_weights" F__law_weights := ok__law_weights D__law_weights m__law_weights b_range b_int h__law_choose h__law_power
  have h_least_gap : Kp P w K mg base 6 "least_gap" F_least_gap := ok_least_gap D_least_gap m_least_gap b_min b_len b_any b_range h_dealt_words
  have h__law_are_dealt_right : Ki P w K mg base 7 "_law_are_dealt_right" F__law_are_dealt_right := ok__law_are_dealt_right D__law_are_dealt_right m__law_are_dealt_right b_len b_tuple b_enumerate b_list b_zip b_range h_dealt_words h_all_rows h__law_draw h__law_weights h_least_gap h_worth h_unlike_places
  exact (ok_law D_law h__law_hand h__law_any h__law_are_near_right h__law_are_dealt_right).ok
end My

namespace My
open PySem PySem.Spec PyProof.Rows L2 PL
-- is_integer : I -> B
@[irreducible] def T_is_integer (thing0 : Int) : Option Bool :=
  (if true then (some (!false)) else some false)
theorem ok_T_is_integer (thing0 : Int) : F_is_integer [D.int thing0] = (T_is_integer thing0).map D.bl := by
  unfold T_is_integer
  exact fn_r (er := D.bl) rfl (r_ret (t_andp (tx (r := (some true)) (t_1p isi_int_int (t_var (e := D.int) (a := thing0) 0 rfl)) rfl) (t_notp (tx (r := (some false)) (t_1p isi_bool_int (t_var (e := D.int) (a := thing0) 0 rfl)) rfl))))
-- check_prime : I -> N
@[irreducible] def T_check_prime (prime0 : Int) : Option Unit :=
  (((((((T_is_integer prime0).map not).bind fun a2 => (if a2 then some true else (some (!([2, 3, 5, 7, 11, 13] : List Int).any fun y1 => decide (y1 = prime0))))).bind fun a4 => if a4 then none else (some ())) : Option Unit).bind fun _ => (some ())).map fun _ => ())
theorem ok_T_check_prime (prime0 : Int) : F_check_prime [D.int prime0] = (T_check_prime prime0).map eN := by
  unfold T_check_prime
  exact fn_a rfl (q_aa (i_a (E := (fun _ : Unit => [some (D.int prime0)])) (tb_or (tb_not (tb_x (tx (r := (T_is_integer prime0)) (t_call1p ok_T_is_integer (t_var (e := D.int) (a := prime0) 0 rfl)) rfl))) (tb_x (tx (r := (some (!([2, 3, 5, 7, 11, 13] : List Int).any fun y1 => decide (y1 = prime0)))) (t_2p o_notInK (t_var (e := D.int) (a := prime0) 0 rfl) (t_c (e := eK D.int) (a := ([2, 3, 5, 7, 11, 13] : List Int)))) rfl))) a_never (a_skip (E := (fun _ : Unit => [some (D.int prime0)])) () rfl)) (fun _ => (a_skip (E := fun _ : Unit => [some (D.int prime0)]) () rfl)))
-- is_within : I, I, I -> B
@[irreducible] def T_is_within (thing0 : Int) (low0 : Int) (high0 : Int) : Option Bool :=
  ((T_is_integer thing0).bind fun a1 => (if a1 then (if (decide (low0 ≤ thing0)) then some (decide (thing0 ≤ high0)) else some false) else some false))
theorem ok_T_is_within (thing0 : Int) (low0 : Int) (high0 : Int) : F_is_within [D.int thing0, D.int low0, D.int high0] = (T_is_within thing0 low0 high0).map D.bl := by
  unfold T_is_within
  exact fn_r (er := D.bl) rfl (r_ret (t_and (tx (r := (T_is_integer thing0)) (t_call1p ok_T_is_integer (t_var (e := D.int) (a := thing0) 0 rfl)) rfl) (t_chainp c_le c_le (t_var (e := D.int) (a := low0) 1 rfl) (t_var (e := D.int) (a := thing0) 0 rfl) (t_var (e := D.int) (a := high0) 2 rfl))))
-- is_row : TI -> B
@[irreducible] def T_is_row (thing0 : (List Int)) : Option Bool :=
  (some true)
theorem ok_T_is_row (thing0 : (List Int)) : F_is_row [(eT D.int) thing0] = (T_is_row thing0).map D.bl := by
  unfold T_is_row
  exact fn_r (er := D.bl) rfl (r_ret (tx (r := (some true)) (t_1p isi2_lt_T (t_var (e := (eT D.int)) (a := thing0) 0 rfl)) rfl))
-- check_values : I, TI -> N
@[irreducible] def T_check_values (prime0 : Int) (row0 : (List Int)) : Option Unit :=
  (((T_check_prime prime0).bind fun _ => ((((((T_is_row row0).map not).bind fun a3 => (if a3 then some true else ((((szO row0).bind fun as => mapO (fun x1 : Int => (T_is_within x1 (0 : Int) (prime0 - (1 : Int)))) as).bind fun a2 => (some (a2.all id))).map not))).bind fun a5 => if a5 then none else (some ())) : Option Unit).bind fun _ => (some ()))).map fun _ => ())
theorem ok_T_check_values (prime0 : Int) (row0 : (List Int)) : F_check_values [D.int prime0, (eT D.int) row0] = (T_check_values prime0 row0).map eN := by
  unfold T_check_values
  exact fn_a rfl (q_aa (a_drop (tx (r := (T_check_prime prime0)) (t_call1p ok_T_check_prime (t_var (e := D.int) (a := prime0) 0 rfl)) rfl)) (fun _ => (q_aa (i_a (E := (fun _ : Unit => [some (D.int prime0), some ((eT D.int) row0), none])) (tb_or (tb_not (tb_x (tx (r := (T_is_row row0)) (t_call1p ok_T_is_row (t_var (e := (eT D.int)) (a := row0) 1 rfl)) rfl))) (tb_not (tb_x (tx (r := (((szO row0).bind fun as => mapO (fun x1 : Int => (T_is_within x1 (0 : Int) (prime0 - (1 : Int)))) as).bind fun a2 => (some (a2.all id)))) (t_call1 o_all (t_compA (e1 := D.int) (e2 := D.bl) (fun x1 => [some (D.int prime0), some ((eT D.int) row0), some (D.int x1)]) (h := (fun x1 : Int => (T_is_within x1 (0 : Int) (prime0 - (1 : Int))))) (th (r := (szO row0)) (ts_tupp (t_var (e := (eT D.int)) (a := row0) 1 rfl)) rfl) (fun _ => rfl) (fun x1 => (tx (r := (T_is_within x1 (0 : Int) (prime0 - (1 : Int)))) (t_call3p ok_T_is_within (t_var (e := D.int) (a := x1) 2 rfl) (t_c (e := D.int) (a := 0)) (tx (r := (some (prime0 - (1 : Int)))) (t_2p o_sub (t_var (e := D.int) (a := prime0) 0 rfl) (t_c (e := D.int) (a := 1))) rfl)) rfl)))) rfl)))) a_never (a_skip (E := (fun _ : Unit => [some (D.int prime0), some ((eT D.int) row0), none])) () rfl)) (fun _ => (a_skip (E := fun _ : Unit => [some (D.int prime0), some ((eT D.int) row0), none]) () rfl)))))
-- is_value : I, I -> B
@[irreducible] def T_is_value (prime0 : Int) (thing0 : Int) : Option Bool :=
  ((T_check_prime prime0).bind fun _ => (T_is_within thing0 (0 : Int) (prime0 - (1 : Int))))
theorem ok_T_is_value (prime0 : Int) (thing0 : Int) : F_is_value [D.int prime0, D.int thing0] = (T_is_value prime0 thing0).map D.bl := by
  unfold T_is_value
  exact fn_r (er := D.bl) rfl (q_ar (a_drop (tx (r := (T_check_prime prime0)) (t_call1p ok_T_check_prime (t_var (e := D.int) (a := prime0) 0 rfl)) rfl)) (fun _ => (r_ret (tx (r := (T_is_within thing0 (0 : Int) (prime0 - (1 : Int)))) (t_call3p ok_T_is_within (t_var (e := D.int) (a := thing0) 1 rfl) (t_c (e := D.int) (a := 0)) (tx (r := (some (prime0 - (1 : Int)))) (t_2p o_sub (t_var (e := D.int) (a := prime0) 0 rfl) (t_c (e := D.int) (a := 1))) rfl)) rfl))))
-- worth : I, TI, I -> I
@[irreducible] def T_worth (prime0 : Int) (items0 : (List Int)) (at0 : Int) : Option Int :=
  ((T_check_values prime0 items0).bind fun _ => (((((T_is_value prime0 at0).map not).bind fun a2 => if a2 then none else (some ())) : Option Unit).bind fun _ => ((some (0 : Int)).bind fun found_3 => (((szO items0.reverse).bind fun as => foldO (fun (s4 : Int) (x5 : Int) => (((((mulO s4 at0).bind fun a7 => ((some x5).bind fun a8 => (some (a7 + a8)))).bind fun a9 => (some a9)).bind fun a10 => ((some prime0).bind fun a11 => (modO a10 a11))).bind fun found_12 => (some found_12))) found_3 as).bind fun s6 => (some s6)))))
theorem ok_T_worth (prime0 : Int) (items0 : (List Int)) (at0 : Int) : F_worth [D.int prime0, (eT D.int) items0, D.int at0] = (T_worth prime0 items0 at0).map D.int := by
  unfold T_worth
  exact fn_r (er := D.int) rfl (q_ar (a_drop (tx (r := (T_check_values prime0 items0)) (t_call2p ok_T_check_values (t_var (e := D.int) (a := prime0) 0 rfl) (t_var (e := (eT D.int)) (a := items0) 1 rfl)) rfl)) (fun _ => (q_ar (i_a (E := (fun _ : Unit => [some (D.int prime0), some ((eT D.int) items0), some (D.int at0), none, none])) (tb_not (tb_x (tx (r := (T_is_value prime0 at0)) (t_call2p ok_T_is_value (t_var (e := D.int) (a := prime0) 0 rfl) (t_var (e := D.int) (a := at0) 2 rfl)) rfl))) a_never (a_skip (E := (fun _ : Unit => [some (D.int prime0), some ((eT D.int) items0), some (D.int at0), none, none])) () rfl)) (fun _ => (q_ar (a_asg (E := (fun found_3 => [some (D.int prime0), some ((eT D.int) items0), some (D.int at0), some (D.int found_3), none])) (t_c (e := D.int) (a := 0)) (fun _ => rfl)) (fun found_3 => (q_ar (f_a (e := D.int) (E := (fun s6 : Int => [some (D.int prime0), some ((eT D.int) items0), some (D.int at0), some (D.int s6), none])) (s0 := found_3) (fun (s4 : Int) (x5 : Int) => [some (D.int prime0), some ((eT D.int) items0), some (D.int at0), some (D.int s4), some (D.int x5)]) (step := (fun (s4 : Int) (x5 : Int) => (((((mulO s4 at0).bind fun a7 => ((some x5).bind fun a8 => (some (a7 + a8)))).bind fun a9 => (some a9)).bind fun a10 => ((some prime0).bind fun a11 => (modO a10 a11))).bind fun found_12 => (some found_12)))) (th (r := (szO items0.reverse)) (ts_lstp (tx (r := (some items0.reverse)) (t_1p o_revL (tx (r := (some items0)) (t_call1p o_lstT (t_var (e := (eT D.int)) (a := items0) 1 rfl)) rfl)) rfl)) rfl) rfl (fun _ => rfl) (fun _ _ => rfl) (fun s4 x5 => (q_aa (a_asg (E := (fun found_12 => [some (D.int prime0), some ((eT D.int) items0), some (D.int at0), some (D.int found_12), some (D.int x5)])) (tx (r := ((((mulO s4 at0).bind fun a7 => ((some x5).bind fun a8 => (some (a7 + a8)))).bind fun a9 => (some a9)).bind fun a10 => ((some prime0).bind fun a11 => (modO a10 a11)))) (t_2 o_mod (tx (r := (((mulO s4 at0).bind fun a7 => ((some x5).bind fun a8 => (some (a7 + a8)))).bind fun a9 => (some a9))) (t_call1 o_toInt (tx (r := ((mulO s4 at0).bind fun a7 => ((some x5).bind fun a8 => (some (a7 + a8))))) (t_2 o_add (tx (r := (mulO s4 at0)) (t_2p o_mul (t_var (e := D.int) (a := s4) 3 rfl) (t_var (e := D.int) (a := at0) 2 rfl)) rfl) (t_var (e := D.int) (a := x5) 4 rfl)) rfl)) rfl) (t_var (e := D.int) (a := prime0) 0 rfl)) rfl) (fun _ => rfl)) (fun found_12 => (a_wipe (ws := [4]) (E := (fun s6 : Int => [some (D.int prime0), some ((eT D.int) items0), some (D.int at0), some (D.int s6), none])) found_12 rfl))))) (fun s6 => (r_ret (t_var (e := D.int) (a := s6) 3 rfl))))))))))
-- dealt_words : I, I, I -> LTI
@[irreducible] def T_dealt_words (prime0 : Int) (length0 : Int) (many0 : Int) : Option (List (List Int)) :=
  ((T_check_prime prime0).bind fun _ => ((((((T_is_within length0 (1 : Int) (prime0 - (1 : Int))).map not).bind fun a1 => (if a1 then some true else ((T_is_within many0 (0 : Int) (length0 - (1 : Int))).map not))).bind fun a3 => if a3 then none else (some ())) : Option Unit).bind fun _ => ((some ([([] : (List Int))] : (List (List Int)))).bind fun rows_4 => (((rangeO1 (many0 + (1 : Int))).bind fun as => foldO (fun (s5 : (List (List Int))) (x6 : Int) => ((some ([] : (List (List Int)))).bind fun longer_8 => (((szO s5).bind fun as => foldO (fun (s9 : (List (List Int))) (x10 : (List Int)) => ((((rangeO1 prime0).bind fun as => mapO (fun x12 : Int => (catO x10 ([x12] : (List Int)))) as).bind fun a14 => (catO s9 a14)).bind fun longer_13 => (some longer_13))) longer_8 as).bind fun s11 => ((some s11).bind fun rows_15 => (((if (decide ((20000 : Int) < ((rows_15.length : Nat) : Int))) then none else (some ())) : Option Unit).bind fun _ => (some rows_15)))))) rows_4 as).bind fun s7 => ((szO s7).bind fun as => mapO (fun x17 : (List Int) => (((rangeO1 length0).bind fun as => mapO (fun x18 : Int => (T_worth prime0 x17 (x18 + (1 : Int)))) as).bind fun a19 => (some a19))) as)))))
theorem ok_T_dealt_words (prime0 : Int) (length0 : Int) (many0 : Int) : F_dealt_words [D.int prime0, D.int length0, D.int many0] = (T_dealt_words prime0 length0 many0).map (eL (eT D.int)) := by
  unfold T_dealt_words
  exact fn_r (er := (eL (eT D.int))) rfl (q_ar (a_drop (tx (r := (T_check_prime prime0)) (t_call1p ok_T_check_prime (t_var (e := D.int) (a := prime0) 0 rfl)) rfl)) (fun _ => (q_ar (i_a (E := (fun _ : Unit => [some (D.int prime0), some (D.int length0), some (D.int many0), none, none, none, none, none, none, none])) (tb_or (tb_not (tb_x (tx (r := (T_is_within length0 (1 : Int) (prime0 - (1 : Int)))) (t_call3p ok_T_is_within (t_var (e := D.int) (a := length0) 1 rfl) (t_c (e := D.int) (a := 1)) (tx (r := (some (prime0 - (1 : Int)))) (t_2p o_sub (t_var (e := D.int) (a := prime0) 0 rfl) (t_c (e := D.int) (a := 1))) rfl)) rfl))) (tb_not (tb_x (tx (r := (T_is_within many0 (0 : Int) (length0 - (1 : Int)))) (t_call3p ok_T_is_within (t_var (e := D.int) (a := many0) 2 rfl) (t_c (e := D.int) (a := 0)) (tx (r := (some (length0 - (1 : Int)))) (t_2p o_sub (t_var (e := D.int) (a := length0) 1 rfl) (t_c (e := D.int) (a := 1))) rfl)) rfl)))) a_never (a_skip (E := (fun _ : Unit => [some (D.int prime0), some (D.int length0), some (D.int many0), none, none, none, none, none, none, none])) () rfl)) (fun _ => (q_ar (a_asg (E := (fun rows_4 => [some (D.int prime0), some (D.int length0), some (D.int many0), some ((eL (eT D.int)) rows_4), none, none, none, none, none, none])) (t_lstHp (th_consp (t_tupHp (th_nil (e := D.int))) (th_nil (e := (eT D.int))))) (fun _ => rfl)) (fun rows_4 => (q_ar (f_a (e := D.int) (E := (fun s7 : (List (List Int)) => [some (D.int prime0), some (D.int length0), some (D.int many0), some ((eL (eT D.int)) s7), none, none, none, none, none, none])) (s0 := rows_4) (fun (s5 : (List (List Int))) (x6 : Int) => [some (D.int prime0), some (D.int length0), some (D.int many0), some ((eL (eT D.int)) s5), some (D.int x6), none, none, none, none, none]) (step := (fun (s5 : (List (List Int))) (x6 : Int) => ((some ([] : (List (List Int)))).bind fun longer_8 => (((szO s5).bind fun as => foldO (fun (s9 : (List (List Int))) (x10 : (List Int)) => ((((rangeO1 prime0).bind fun as => mapO (fun x12 : Int => (catO x10 ([x12] : (List Int)))) as).bind fun a14 => (catO s9 a14)).bind fun longer_13 => (some longer_13))) longer_8 as).bind fun s11 => ((some s11).bind fun rows_15 => (((if (decide ((20000 : Int) < ((rows_15.length : Nat) : Int))) then none else (some ())) : Option Unit).bind fun _ => (some rows_15))))))) (th (r := (rangeO1 (many0 + (1 : Int)))) (ts_range1p (tx (r := (some (many0 + (1 : Int)))) (t_2p o_add (t_var (e := D.int) (a := many0) 2 rfl) (t_c (e := D.int) (a := 1))) rfl)) rfl) rfl (fun _ => rfl) (fun _ _ => rfl) (fun s5 x6 => (q_aa (a_new (t_lstHp (th_nil (e := (eT D.int)))) rfl) (fun longer_8 => (q_aa (f_a (e := (eT D.int)) (E := (fun s11 : (List (List Int)) => [some (D.int prime0), some (D.int length0), some (D.int many0), some ((eL (eT D.int)) s5), some (D.int x6), some ((eL (eT D.int)) s11), none, none, none, none])) (s0 := longer_8) (fun (s9 : (List (List Int))) (x10 : (List Int)) => [some (D.int prime0), some (D.int length0), some (D.int many0), some ((eL (eT D.int)) s5), some (D.int x6), some ((eL (eT D.int)) s9), some ((eT D.int) x10), none, none, none]) (step := (fun (s9 : (List (List Int))) (x10 : (List Int)) => ((((rangeO1 prime0).bind fun as => mapO (fun x12 : Int => (catO x10 ([x12] : (List Int)))) as).bind fun a14 => (catO s9 a14)).bind fun longer_13 => (some longer_13)))) (th (r := (szO s5)) (ts_lstp (t_var (e := (eL (eT D.int))) (a := s5) 3 rfl)) rfl) rfl (fun _ => rfl) (fun _ _ => rfl) (fun s9 x10 => (q_aa (a_ext (i := 5) (xs := s9) (t_compA (e1 := D.int) (e2 := (eT D.int)) (fun x12 => [some (D.int prime0), some (D.int length0), some (D.int many0), some ((eL (eT D.int)) s5), some (D.int x6), some ((eL (eT D.int)) s9), some ((eT D.int) x10), none, none, some (D.int x12)]) (h := (fun x12 : Int => (catO x10 ([x12] : (List Int))))) (th (r := (rangeO1 prime0)) (ts_range1p (t_var (e := D.int) (a := prime0) 0 rfl)) rfl) (fun _ => rfl) (fun x12 => (tx (r := (catO x10 ([x12] : (List Int)))) (t_2p o_addT (t_var (e := (eT D.int)) (a := x10) 6 rfl) (t_tupHp (th_consp (t_var (e := D.int) (a := x12) 9 rfl) (th_nil (e := D.int))))) rfl))) rfl) (fun longer_13 => (a_wipe (ws := [6]) (E := (fun s11 : (List (List Int)) => [some (D.int prime0), some (D.int length0), some (D.int many0), some ((eL (eT D.int)) s5), some (D.int x6), some ((eL (eT D.int)) s11), none, none, none, none])) longer_13 rfl))))) (fun s11 => (q_aa (a_asg (E := (fun rows_15 => [some (D.int prime0), some (D.int length0), some (D.int many0), some ((eL (eT D.int)) rows_15), some (D.int x6), some ((eL (eT D.int)) s11), none, none, none, none])) (t_var (e := (eL (eT D.int))) (a := s11) 5 rfl) (fun _ => rfl)) (fun rows_15 => (q_aa (i_ap (E := (fun _ : Unit => [some (D.int prime0), some (D.int length0), some (D.int many0), some ((eL (eT D.int)) rows_15), some (D.int x6), some ((eL (eT D.int)) s11), none, none, none, none])) (tb_x (tx (r := (some (decide ((20000 : Int) < ((rows_15.length : Nat) : Int))))) (t_2p o_gt (tx (r := (some ((rows_15.length : Nat) : Int))) (t_call1p o_lenL (t_var (e := (eL (eT D.int))) (a := rows_15) 3 rfl)) rfl) (t_c (e := D.int) (a := 20000))) rfl)) a_never (a_skip (E := (fun _ : Unit => [some (D.int prime0), some (D.int length0), some (D.int many0), some ((eL (eT D.int)) rows_15), some (D.int x6), some ((eL (eT D.int)) s11), none, none, none, none])) () rfl)) (fun _ => (a_wipe (ws := [4, 5, 6]) (E := (fun s7 : (List (List Int)) => [some (D.int prime0), some (D.int length0), some (D.int many0), some ((eL (eT D.int)) s7), none, none, none, none, none, none])) rows_15 rfl))))))))))) (fun s7 => (r_ret (t_compA (e1 := (eT D.int)) (e2 := (eT D.int)) (fun x17 => [some (D.int prime0), some (D.int length0), some (D.int many0), some ((eL (eT D.int)) s7), none, none, none, some ((eT D.int) x17), none, none]) (h := (fun x17 : (List Int) => (((rangeO1 length0).bind fun as => mapO (fun x18 : Int => (T_worth prime0 x17 (x18 + (1 : Int)))) as).bind fun a19 => (some a19)))) (th (r := (szO s7)) (ts_lstp (t_var (e := (eL (eT D.int))) (a := s7) 3 rfl)) rfl) (fun _ => rfl) (fun x17 => (tx (r := (((rangeO1 length0).bind fun as => mapO (fun x18 : Int => (T_worth prime0 x17 (x18 + (1 : Int)))) as).bind fun a19 => (some a19))) (t_call1 o_tupL (t_compA (e1 := D.int) (e2 := D.int) (fun x18 => [some (D.int prime0), some (D.int length0), some (D.int many0), some ((eL (eT D.int)) s7), none, none, none, some ((eT D.int) x17), some (D.int x18), none]) (h := (fun x18 : Int => (T_worth prime0 x17 (x18 + (1 : Int))))) (th (r := (rangeO1 length0)) (ts_range1p (t_var (e := D.int) (a := length0) 1 rfl)) rfl) (fun _ => rfl) (fun x18 => (tx (r := (T_worth prime0 x17 (x18 + (1 : Int)))) (t_call3p ok_T_worth (t_var (e := D.int) (a := prime0) 0 rfl) (t_var (e := (eT D.int)) (a := x17) 7 rfl) (tx (r := (some (x18 + (1 : Int)))) (t_2p o_add (t_var (e := D.int) (a := x18) 8 rfl) (t_c (e := D.int) (a := 1))) rfl)) rfl)))) rfl))))))))))))
-- all_rows : I, I -> LTI
@[irreducible] def T_all_rows (prime0 : Int) (many0 : Int) : Option (List (List Int)) :=
  ((T_check_prime prime0).bind fun _ => (((((T_is_within many0 (0 : Int) (14 : Int)).map not).bind fun a2 => if a2 then none else (some ())) : Option Unit).bind fun _ => ((some ([([] : (List Int))] : (List (List Int)))).bind fun found_3 => (((rangeO1 many0).bind fun as => foldO (fun (s4 : (List (List Int))) (x5 : Int) => ((some ([] : (List (List Int)))).bind fun longer_7 => (((szO s4).bind fun as => foldO (fun (s8 : (List (List Int))) (x9 : (List Int)) => ((((rangeO1 prime0).bind fun as => mapO (fun x11 : Int => (catO x9 ([x11] : (List Int)))) as).bind fun a13 => (catO s8 a13)).bind fun longer_12 => (some longer_12))) longer_7 as).bind fun s10 => ((some s10).bind fun found_14 => (((if (decide ((20000 : Int) < ((found_14.length : Nat) : Int))) then none else (some ())) : Option Unit).bind fun _ => (some found_14)))))) found_3 as).bind fun s6 => (some s6)))))
theorem ok_T_all_rows (prime0 : Int) (many0 : Int) : F_all_rows [D.int prime0, D.int many0] = (T_all_rows prime0 many0).map (eL (eT D.int)) := by
  unfold T_all_rows
  exact fn_r (er := (eL (eT D.int))) rfl (q_ar (a_drop (tx (r := (T_check_prime prime0)) (t_call1p ok_T_check_prime (t_var (e := D.int) (a := prime0) 0 rfl)) rfl)) (fun _ => (q_ar (i_a (E := (fun _ : Unit => [some (D.int prime0), some (D.int many0), none, none, none, none, none])) (tb_not (tb_x (tx (r := (T_is_within many0 (0 : Int) (14 : Int))) (t_call3p ok_T_is_within (t_var (e := D.int) (a := many0) 1 rfl) (t_c (e := D.int) (a := 0)) (t_c (e := D.int) (a := 14))) rfl))) a_never (a_skip (E := (fun _ : Unit => [some (D.int prime0), some (D.int many0), none, none, none, none, none])) () rfl)) (fun _ => (q_ar (a_asg (E := (fun found_3 => [some (D.int prime0), some (D.int many0), some ((eL (eT D.int)) found_3), none, none, none, none])) (t_lstHp (th_consp (t_tupHp (th_nil (e := D.int))) (th_nil (e := (eT D.int))))) (fun _ => rfl)) (fun found_3 => (q_ar (f_a (e := D.int) (E := (fun s6 : (List (List Int)) => [some (D.int prime0), some (D.int many0), some ((eL (eT D.int)) s6), none, none, none, none])) (s0 := found_3) (fun (s4 : (List (List Int))) (x5 : Int) => [some (D.int prime0), some (D.int many0), some ((eL (eT D.int)) s4), some (D.int x5), none, none, none]) (step := (fun (s4 : (List (List Int))) (x5 : Int) => ((some ([] : (List (List Int)))).bind fun longer_7 => (((szO s4).bind fun as => foldO (fun (s8 : (List (List Int))) (x9 : (List Int)) => ((((rangeO1 prime0).bind fun as => mapO (fun x11 : Int => (catO x9 ([x11] : (List Int)))) as).bind fun a13 => (catO s8 a13)).bind fun longer_12 => (some longer_12))) longer_7 as).bind fun s10 => ((some s10).bind fun found_14 => (((if (decide ((20000 : Int) < ((found_14.length : Nat) : Int))) then none else (some ())) : Option Unit).bind fun _ => (some found_14))))))) (th (r := (rangeO1 many0)) (ts_range1p (t_var (e := D.int) (a := many0) 1 rfl)) rfl) rfl (fun _ => rfl) (fun _ _ => rfl) (fun s4 x5 => (q_aa (a_new (t_lstHp (th_nil (e := (eT D.int)))) rfl) (fun longer_7 => (q_aa (f_a (e := (eT D.int)) (E := (fun s10 : (List (List Int)) => [some (D.int prime0), some (D.int many0), some ((eL (eT D.int)) s4), some (D.int x5), some ((eL (eT D.int)) s10), none, none])) (s0 := longer_7) (fun (s8 : (List (List Int))) (x9 : (List Int)) => [some (D.int prime0), some (D.int many0), some ((eL (eT D.int)) s4), some (D.int x5), some ((eL (eT D.int)) s8), some ((eT D.int) x9), none]) (step := (fun (s8 : (List (List Int))) (x9 : (List Int)) => ((((rangeO1 prime0).bind fun as => mapO (fun x11 : Int => (catO x9 ([x11] : (List Int)))) as).bind fun a13 => (catO s8 a13)).bind fun longer_12 => (some longer_12)))) (th (r := (szO s4)) (ts_lstp (t_var (e := (eL (eT D.int))) (a := s4) 2 rfl)) rfl) rfl (fun _ => rfl) (fun _ _ => rfl) (fun s8 x9 => (q_aa (a_ext (i := 4) (xs := s8) (t_compA (e1 := D.int) (e2 := (eT D.int)) (fun x11 => [some (D.int prime0), some (D.int many0), some ((eL (eT D.int)) s4), some (D.int x5), some ((eL (eT D.int)) s8), some ((eT D.int) x9), some (D.int x11)]) (h := (fun x11 : Int => (catO x9 ([x11] : (List Int))))) (th (r := (rangeO1 prime0)) (ts_range1p (t_var (e := D.int) (a := prime0) 0 rfl)) rfl) (fun _ => rfl) (fun x11 => (tx (r := (catO x9 ([x11] : (List Int)))) (t_2p o_addT (t_var (e := (eT D.int)) (a := x9) 5 rfl) (t_tupHp (th_consp (t_var (e := D.int) (a := x11) 6 rfl) (th_nil (e := D.int))))) rfl))) rfl) (fun longer_12 => (a_wipe (ws := [5]) (E := (fun s10 : (List (List Int)) => [some (D.int prime0), some (D.int many0), some ((eL (eT D.int)) s4), some (D.int x5), some ((eL (eT D.int)) s10), none, none])) longer_12 rfl))))) (fun s10 => (q_aa (a_asg (E := (fun found_14 => [some (D.int prime0), some (D.int many0), some ((eL (eT D.int)) found_14), some (D.int x5), some ((eL (eT D.int)) s10), none, none])) (t_var (e := (eL (eT D.int))) (a := s10) 4 rfl) (fun _ => rfl)) (fun found_14 => (q_aa (i_ap (E := (fun _ : Unit => [some (D.int prime0), some (D.int many0), some ((eL (eT D.int)) found_14), some (D.int x5), some ((eL (eT D.int)) s10), none, none])) (tb_x (tx (r := (some (decide ((20000 : Int) < ((found_14.length : Nat) : Int))))) (t_2p o_gt (tx (r := (some ((found_14.length : Nat) : Int))) (t_call1p o_lenL (t_var (e := (eL (eT D.int))) (a := found_14) 2 rfl)) rfl) (t_c (e := D.int) (a := 20000))) rfl)) a_never (a_skip (E := (fun _ : Unit => [some (D.int prime0), some (D.int many0), some ((eL (eT D.int)) found_14), some (D.int x5), some ((eL (eT D.int)) s10), none, none])) () rfl)) (fun _ => (a_wipe (ws := [3, 4, 5]) (E := (fun s6 : (List (List Int)) => [some (D.int prime0), some (D.int many0), some ((eL (eT D.int)) s6), none, none, none, none])) found_14 rfl))))))))))) (fun s6 => (r_ret (t_var (e := (eL (eT D.int))) (a := s6) 2 rfl))))))))))
-- least_gap : I, I, I -> I
@[irreducible] def T_least_gap (prime0 : Int) (length0 : Int) (many0 : Int) : Option Int :=
  ((T_dealt_words prime0 length0 many0).bind fun words_1 => (((szO words_1).bind fun as => fmO (fun x2 : (List Int) => (some (x2.any fun n => n != 0))) (fun x2 : (List Int) => (((rangeO1 length0).bind fun as => fmO (fun x3 : Int => ((atI x2 x3).bind fun a4 => ((some (0 : Int)).bind fun a5 => (some (!decide (a4 = a5)))))) (fun x3 : Int => (some x3)) as).bind fun a6 => (some ((a6.length : Nat) : Int)))) as).bind fun a7 => (minL a7)))
theorem ok_T_least_gap (prime0 : Int) (length0 : Int) (many0 : Int) : F_least_gap [D.int prime0, D.int length0, D.int many0] = (T_least_gap prime0 length0 many0).map D.int := by
  unfold T_least_gap
  exact fn_r (er := D.int) rfl (q_ar (a_asg (E := (fun words_1 => [some (D.int prime0), some (D.int length0), some (D.int many0), some ((eL (eT D.int)) words_1), none, none])) (tx (r := (T_dealt_words prime0 length0 many0)) (t_call3p ok_T_dealt_words (t_var (e := D.int) (a := prime0) 0 rfl) (t_var (e := D.int) (a := length0) 1 rfl) (t_var (e := D.int) (a := many0) 2 rfl)) rfl) (fun _ => rfl)) (fun words_1 => (r_ret (tx (r := (((szO words_1).bind fun as => fmO (fun x2 : (List Int) => (some (x2.any fun n => n != 0))) (fun x2 : (List Int) => (((rangeO1 length0).bind fun as => fmO (fun x3 : Int => ((atI x2 x3).bind fun a4 => ((some (0 : Int)).bind fun a5 => (some (!decide (a4 = a5)))))) (fun x3 : Int => (some x3)) as).bind fun a6 => (some ((a6.length : Nat) : Int)))) as).bind fun a7 => (minL a7))) (t_call1 o_min (t_comp (e1 := (eT D.int)) (e2 := D.int) (fun x2 => [some (D.int prime0), some (D.int length0), some (D.int many0), some ((eL (eT D.int)) words_1), some ((eT D.int) x2), none]) (p := (fun x2 : (List Int) => (some (x2.any fun n => n != 0)))) (h := (fun x2 : (List Int) => (((rangeO1 length0).bind fun as => fmO (fun x3 : Int => ((atI x2 x3).bind fun a4 => ((some (0 : Int)).bind fun a5 => (some (!decide (a4 = a5)))))) (fun x3 : Int => (some x3)) as).bind fun a6 => (some ((a6.length : Nat) : Int))))) (th (r := (szO words_1)) (ts_lstp (t_var (e := (eL (eT D.int))) (a := words_1) 3 rfl)) rfl) (fun _ => rfl) (fun x2 => (tb_x (tx (r := (some (x2.any fun n => n != 0))) (t_call1p o_anyT (t_var (e := (eT D.int)) (a := x2) 4 rfl)) rfl))) (fun x2 => (tx (r := (((rangeO1 length0).bind fun as => fmO (fun x3 : Int => ((atI x2 x3).bind fun a4 => ((some (0 : Int)).bind fun a5 => (some (!decide (a4 = a5)))))) (fun x3 : Int => (some x3)) as).bind fun a6 => (some ((a6.length : Nat) : Int)))) (t_call1 o_lenL (t_comp (e1 := D.int) (e2 := D.int) (fun x3 => [some (D.int prime0), some (D.int length0), some (D.int many0), some ((eL (eT D.int)) words_1), some ((eT D.int) x2), some (D.int x3)]) (p := (fun x3 : Int => ((atI x2 x3).bind fun a4 => ((some (0 : Int)).bind fun a5 => (some (!decide (a4 = a5))))))) (h := (fun x3 : Int => (some x3))) (th (r := (rangeO1 length0)) (ts_range1p (t_var (e := D.int) (a := length0) 1 rfl)) rfl) (fun _ => rfl) (fun x3 => (tb_x (tx (r := ((atI x2 x3).bind fun a4 => ((some (0 : Int)).bind fun a5 => (some (!decide (a4 = a5)))))) (t_2 (o_ne eq_int (by decide)) (tx (r := (atI x2 x3)) (t_2p o_ixT (t_var (e := (eT D.int)) (a := x2) 4 rfl) (t_var (e := D.int) (a := x3) 5 rfl)) rfl) (t_c (e := D.int) (a := 0))) rfl))) (fun x3 => (t_var (e := D.int) (a := x3) 5 rfl)))) rfl)))) rfl))))
-- _law_choose : I, I -> I
@[irreducible] def T__law_choose (many0 : Int) (few0 : Int) : Option Int :=
  ((some (1 : Int)).bind fun found_1 => (((rangeO1 few0).bind fun as => foldO (fun (s2 : Int) (x3 : Int) => (((mulO s2 (many0 - x3)).bind fun a5 => ((some (x3 + (1 : Int))).bind fun a6 => (fdivO a5 a6))).bind fun found_7 => (some found_7))) found_1 as).bind fun s4 => (some s4)))
theorem ok_T__law_choose (many0 : Int) (few0 : Int) : F__law_choose [D.int many0, D.int few0] = (T__law_choose many0 few0).map D.int := by
  unfold T__law_choose
  exact fn_r (er := D.int) rfl (q_ar (a_asg (E := (fun found_1 => [some (D.int many0), some (D.int few0), some (D.int found_1), none])) (t_c (e := D.int) (a := 1)) (fun _ => rfl)) (fun found_1 => (q_ar (f_a (e := D.int) (E := (fun s4 : Int => [some (D.int many0), some (D.int few0), some (D.int s4), none])) (s0 := found_1) (fun (s2 : Int) (x3 : Int) => [some (D.int many0), some (D.int few0), some (D.int s2), some (D.int x3)]) (step := (fun (s2 : Int) (x3 : Int) => (((mulO s2 (many0 - x3)).bind fun a5 => ((some (x3 + (1 : Int))).bind fun a6 => (fdivO a5 a6))).bind fun found_7 => (some found_7)))) (th (r := (rangeO1 few0)) (ts_range1p (t_var (e := D.int) (a := few0) 1 rfl)) rfl) rfl (fun _ => rfl) (fun _ _ => rfl) (fun s2 x3 => (q_aa (a_asg (E := (fun found_7 => [some (D.int many0), some (D.int few0), some (D.int found_7), some (D.int x3)])) (tx (r := ((mulO s2 (many0 - x3)).bind fun a5 => ((some (x3 + (1 : Int))).bind fun a6 => (fdivO a5 a6)))) (t_2 o_fdiv (tx (r := (mulO s2 (many0 - x3))) (t_2p o_mul (t_var (e := D.int) (a := s2) 2 rfl) (tx (r := (some (many0 - x3))) (t_2p o_sub (t_var (e := D.int) (a := many0) 0 rfl) (t_var (e := D.int) (a := x3) 3 rfl)) rfl)) rfl) (tx (r := (some (x3 + (1 : Int)))) (t_2p o_add (t_var (e := D.int) (a := x3) 3 rfl) (t_c (e := D.int) (a := 1))) rfl)) rfl) (fun _ => rfl)) (fun found_7 => (a_wipe (ws := [3]) (E := (fun s4 : Int => [some (D.int many0), some (D.int few0), some (D.int s4), none])) found_7 rfl))))) (fun s4 => (r_ret (t_var (e := D.int) (a := s4) 2 rfl))))))
-- _law_power : I, I -> I
@[irreducible] def T__law_power (base0 : Int) (many0 : Int) : Option Int :=
  ((some (1 : Int)).bind fun found_1 => (((rangeO1 many0).bind fun as => foldO (fun (s2 : Int) (x3 : Int) => ((mulO s2 base0).bind fun found_5 => (some found_5))) found_1 as).bind fun s4 => (some s4)))
theorem ok_T__law_power (base0 : Int) (many0 : Int) : F__law_power [D.int base0, D.int many0] = (T__law_power base0 many0).map D.int := by
  unfold T__law_power
  exact fn_r (er := D.int) rfl (q_ar (a_asg (E := (fun found_1 => [some (D.int base0), some (D.int many0), some (D.int found_1), none])) (t_c (e := D.int) (a := 1)) (fun _ => rfl)) (fun found_1 => (q_ar (f_a (e := D.int) (E := (fun s4 : Int => [some (D.int base0), some (D.int many0), some (D.int s4), none])) (s0 := found_1) (fun (s2 : Int) (x3 : Int) => [some (D.int base0), some (D.int many0), some (D.int s2), some (D.int x3)]) (step := (fun (s2 : Int) (x3 : Int) => ((mulO s2 base0).bind fun found_5 => (some found_5)))) (th (r := (rangeO1 many0)) (ts_range1p (t_var (e := D.int) (a := many0) 1 rfl)) rfl) rfl (fun _ => rfl) (fun _ _ => rfl) (fun s2 x3 => (q_aa (a_asg (E := (fun found_5 => [some (D.int base0), some (D.int many0), some (D.int found_5), some (D.int x3)])) (tx (r := (mulO s2 base0)) (t_2p o_mul (t_var (e := D.int) (a := s2) 2 rfl) (t_var (e := D.int) (a := base0) 0 rfl)) rfl) (fun _ => rfl)) (fun found_5 => (a_wipe (ws := [3]) (E := (fun s4 : Int => [some (D.int base0), some (D.int many0), some (D.int s4), none])) found_5 rfl))))) (fun s4 => (r_ret (t_var (e := D.int) (a := s4) 2 rfl))))))
-- _law_weights : I, I, I -> LI
@[irreducible] def T__law_weights (prime0 : Int) (length0 : Int) (many0 : Int) : Option (List Int) :=
  (((some (length0 - many0)).bind fun a4 => (((some ([(1 : Int)] : (List Int))).bind fun a1 => ((repO ([(0 : Int)] : (List Int)) length0).bind fun a2 => (catO a1 a2))).bind fun a5 => (some (a4, a5)))).bind fun p3 => (((rangeO2 p3.1 (length0 + (1 : Int))).bind fun as => foldO (fun (s6 : (List Int)) (x7 : Int) => ((some (0 : Int)).bind fun total_9 => (((rangeO1 ((x7 - p3.1) + (1 : Int))).bind fun as => foldO (fun (s10 : Int) (x11 : Int) => (((T__law_choose x7 x11).bind fun a15 => (((T__law_power prime0 (((x7 - p3.1) + (1 : Int)) - x11)).bind fun a13 => ((some (1 : Int)).bind fun a14 => (some (a13 - a14)))).bind fun a16 => (mulO a15 a16))).bind fun part_17 => (((some s10).bind fun a27 => (((some part_17).bind fun a25 => (((some (1 : Int)).bind fun a23 => (((some (2 : Int)).bind fun a21 => ((((modO x11 (2 : Int)).bind fun a18 => ((some (1 : Int)).bind fun a19 => (some (decide (a18 = a19))))).bind fun a20 => (some (if a20 then 1 else 0 : Int))).bind fun a22 => (mulO a21 a22))).bind fun a24 => (some (a23 - a24)))).bind fun a26 => (mulO a25 a26))).bind fun a28 => (some (a27 + a28)))).bind fun total_29 => (some total_29)))) total_9 as).bind fun s12 => ((((T__law_choose length0 x7).bind fun a30 => ((some s12).bind fun a31 => (mulO a30 a31))).bind fun a33 => ((some x7).bind fun a34 => (setO s6 a34 a33))).bind fun found_32 => (some found_32))))) p3.2 as).bind fun s8 => (some s8)))
theorem ok_T__law_weights (prime0 : Int) (length0 : Int) (many0 : Int) : F__law_weights [D.int prime0, D.int length0, D.int many0] = (T__law_weights prime0 length0 many0).map (eL D.int) := by
  unfold T__law_weights
  exact fn_r (er := (eL D.int)) rfl (q_ar (ta (E' := fun p3 => [some (D.int prime0), some (D.int length0), some (D.int many0), none, some (D.int p3.1), some ((eL D.int) p3.2), none, none, none]) (a_parXN (tx (r := (some (length0 - many0))) (t_2p o_sub (t_var (e := D.int) (a := length0) 1 rfl) (t_var (e := D.int) (a := many0) 2 rfl)) rfl) (tx (r := ((some ([(1 : Int)] : (List Int))).bind fun a1 => ((repO ([(0 : Int)] : (List Int)) length0).bind fun a2 => (catO a1 a2)))) (t_2 o_addLN (t_lstHp (th_consp (t_c (e := D.int) (a := 1)) (th_nil (e := D.int)))) (tx (r := (repO ([(0 : Int)] : (List Int)) length0)) (t_2p o_repL (t_lstHp (th_consp (t_c (e := D.int) (a := 0)) (th_nil (e := D.int)))) (t_var (e := D.int) (a := length0) 1 rfl)) rfl)) rfl) rfl) rfl) (fun p3 => (q_ar (f_a (e := D.int) (E := (fun s8 : (List Int) => [some (D.int prime0), some (D.int length0), some (D.int many0), none, some (D.int p3.1), some ((eL D.int) s8), none, none, none])) (s0 := p3.2) (fun (s6 : (List Int)) (x7 : Int) => [some (D.int prime0), some (D.int length0), some (D.int many0), some (D.int x7), some (D.int p3.1), some ((eL D.int) s6), none, none, none]) (step := (fun (s6 : (List Int)) (x7 : Int) => ((some (0 : Int)).bind fun total_9 => (((rangeO1 ((x7 - p3.1) + (1 : Int))).bind fun as => foldO (fun (s10 : Int) (x11 : Int) => (((T__law_choose x7 x11).bind fun a15 => (((T__law_power prime0 (((x7 - p3.1) + (1 : Int)) - x11)).bind fun a13 => ((some (1 : Int)).bind fun a14 => (some (a13 - a14)))).bind fun a16 => (mulO a15 a16))).bind fun part_17 => (((some s10).bind fun a27 => (((some part_17).bind fun a25 => (((some (1 : Int)).bind fun a23 => (((some (2 : Int)).bind fun a21 => ((((modO x11 (2 : Int)).bind fun a18 => ((some (1 : Int)).bind fun a19 => (some (decide (a18 = a19))))).bind fun a20 => (some (if a20 then 1 else 0 : Int))).bind fun a22 => (mulO a21 a22))).bind fun a24 => (some (a23 - a24)))).bind fun a26 => (mulO a25 a26))).bind fun a28 => (some (a27 + a28)))).bind fun total_29 => (some total_29)))) total_9 as).bind fun s12 => ((((T__law_choose length0 x7).bind fun a30 => ((some s12).bind fun a31 => (mulO a30 a31))).bind fun a33 => ((some x7).bind fun a34 => (setO s6 a34 a33))).bind fun found_32 => (some found_32)))))) (th (r := (rangeO2 p3.1 (length0 + (1 : Int)))) (ts_range2p (t_var (e := D.int) (a := p3.1) 4 rfl) (tx (r := (some (length0 + (1 : Int)))) (t_2p o_add (t_var (e := D.int) (a := length0) 1 rfl) (t_c (e := D.int) (a := 1))) rfl)) rfl) rfl (fun _ => rfl) (fun _ _ => rfl) (fun s6 x7 => (q_aa (a_asg (E := (fun total_9 => [some (D.int prime0), some (D.int length0), some (D.int many0), some (D.int x7), some (D.int p3.1), some ((eL D.int) s6), some (D.int total_9), none, none])) (t_c (e := D.int) (a := 0)) (fun _ => rfl)) (fun total_9 => (q_aa (f_a (e := D.int) (E := (fun s12 : Int => [some (D.int prime0), some (D.int length0), some (D.int many0), some (D.int x7), some (D.int p3.1), some ((eL D.int) s6), some (D.int s12), none, none])) (s0 := total_9) (fun (s10 : Int) (x11 : Int) => [some (D.int prime0), some (D.int length0), some (D.int many0), some (D.int x7), some (D.int p3.1), some ((eL D.int) s6), some (D.int s10), some (D.int x11), none]) (step := (fun (s10 : Int) (x11 : Int) => (((T__law_choose x7 x11).bind fun a15 => (((T__law_power prime0 (((x7 - p3.1) + (1 : Int)) - x11)).bind fun a13 => ((some (1 : Int)).bind fun a14 => (some (a13 - a14)))).bind fun a16 => (mulO a15 a16))).bind fun part_17 => (((some s10).bind fun a27 => (((some part_17).bind fun a25 => (((some (1 : Int)).bind fun a23 => (((some (2 : Int)).bind fun a21 => ((((modO x11 (2 : Int)).bind fun a18 => ((some (1 : Int)).bind fun a19 => (some (decide (a18 = a19))))).bind fun a20 => (some (if a20 then 1 else 0 : Int))).bind fun a22 => (mulO a21 a22))).bind fun a24 => (some (a23 - a24)))).bind fun a26 => (mulO a25 a26))).bind fun a28 => (some (a27 + a28)))).bind fun total_29 => (some total_29))))) (th (r := (rangeO1 ((x7 - p3.1) + (1 : Int)))) (ts_range1p (tx (r := (some ((x7 - p3.1) + (1 : Int)))) (t_2p o_add (tx (r := (some (x7 - p3.1))) (t_2p o_sub (t_var (e := D.int) (a := x7) 3 rfl) (t_var (e := D.int) (a := p3.1) 4 rfl)) rfl) (t_c (e := D.int) (a := 1))) rfl)) rfl) rfl (fun _ => rfl) (fun _ _ => rfl) (fun s10 x11 => (q_aa (a_asg (E := (fun part_17 => [some (D.int prime0), some (D.int length0), some (D.int many0), some (D.int x7), some (D.int p3.1), some ((eL D.int) s6), some (D.int s10), some (D.int x11), some (D.int part_17)])) (tx (r := ((T__law_choose x7 x11).bind fun a15 => (((T__law_power prime0 (((x7 - p3.1) + (1 : Int)) - x11)).bind fun a13 => ((some (1 : Int)).bind fun a14 => (some (a13 - a14)))).bind fun a16 => (mulO a15 a16)))) (t_2 o_mul (tx (r := (T__law_choose x7 x11)) (t_call2p ok_T__law_choose (t_var (e := D.int) (a := x7) 3 rfl) (t_var (e := D.int) (a := x11) 7 rfl)) rfl) (tx (r := ((T__law_power prime0 (((x7 - p3.1) + (1 : Int)) - x11)).bind fun a13 => ((some (1 : Int)).bind fun a14 => (some (a13 - a14))))) (t_2 o_sub (tx (r := (T__law_power prime0 (((x7 - p3.1) + (1 : Int)) - x11))) (t_call2p ok_T__law_power (t_var (e := D.int) (a := prime0) 0 rfl) (tx (r := (some (((x7 - p3.1) + (1 : Int)) - x11))) (t_2p o_sub (tx (r := (some ((x7 - p3.1) + (1 : Int)))) (t_2p o_add (tx (r := (some (x7 - p3.1))) (t_2p o_sub (t_var (e := D.int) (a := x7) 3 rfl) (t_var (e := D.int) (a := p3.1) 4 rfl)) rfl) (t_c (e := D.int) (a := 1))) rfl) (t_var (e := D.int) (a := x11) 7 rfl)) rfl)) rfl) (t_c (e := D.int) (a := 1))) rfl)) rfl) (fun _ => rfl)) (fun part_17 => (q_aa (a_asg (E := (fun total_29 => [some (D.int prime0), some (D.int length0), some (D.int many0), some (D.int x7), some (D.int p3.1), some ((eL D.int) s6), some (D.int total_29), some (D.int x11), some (D.int part_17)])) (tx (r := ((some s10).bind fun a27 => (((some part_17).bind fun a25 => (((some (1 : Int)).bind fun a23 => (((some (2 : Int)).bind fun a21 => ((((modO x11 (2 : Int)).bind fun a18 => ((some (1 : Int)).bind fun a19 => (some (decide (a18 = a19))))).bind fun a20 => (some (if a20 then 1 else 0 : Int))).bind fun a22 => (mulO a21 a22))).bind fun a24 => (some (a23 - a24)))).bind fun a26 => (mulO a25 a26))).bind fun a28 => (some (a27 + a28))))) (t_2 o_add (t_var (e := D.int) (a := s10) 6 rfl) (tx (r := ((some part_17).bind fun a25 => (((some (1 : Int)).bind fun a23 => (((some (2 : Int)).bind fun a21 => ((((modO x11 (2 : Int)).bind fun a18 => ((some (1 : Int)).bind fun a19 => (some (decide (a18 = a19))))).bind fun a20 => (some (if a20 then 1 else 0 : Int))).bind fun a22 => (mulO a21 a22))).bind fun a24 => (some (a23 - a24)))).bind fun a26 => (mulO a25 a26)))) (t_2 o_mul (t_var (e := D.int) (a := part_17) 8 rfl) (tx (r := ((some (1 : Int)).bind fun a23 => (((some (2 : Int)).bind fun a21 => ((((modO x11 (2 : Int)).bind fun a18 => ((some (1 : Int)).bind fun a19 => (some (decide (a18 = a19))))).bind fun a20 => (some (if a20 then 1 else 0 : Int))).bind fun a22 => (mulO a21 a22))).bind fun a24 => (some (a23 - a24))))) (t_2 o_sub (t_c (e := D.int) (a := 1)) (tx (r := ((some (2 : Int)).bind fun a21 => ((((modO x11 (2 : Int)).bind fun a18 => ((some (1 : Int)).bind fun a19 => (some (decide (a18 = a19))))).bind fun a20 => (some (if a20 then 1 else 0 : Int))).bind fun a22 => (mulO a21 a22)))) (t_2 o_mul (t_c (e := D.int) (a := 2)) (tx (r := (((modO x11 (2 : Int)).bind fun a18 => ((some (1 : Int)).bind fun a19 => (some (decide (a18 = a19))))).bind fun a20 => (some (if a20 then 1 else 0 : Int)))) (t_call1 o_toIntB (tx (r := ((modO x11 (2 : Int)).bind fun a18 => ((some (1 : Int)).bind fun a19 => (some (decide (a18 = a19)))))) (t_2 (o_eq eq_int (by decide)) (tx (r := (modO x11 (2 : Int))) (t_2p o_mod (tx (r := (some x11)) (t_call1p o_toInt (t_var (e := D.int) (a := x11) 7 rfl)) rfl) (t_c (e := D.int) (a := 2))) rfl) (t_c (e := D.int) (a := 1))) rfl)) rfl)) rfl)) rfl)) rfl)) rfl) (fun _ => rfl)) (fun total_29 => (a_wipe (ws := [7, 8]) (E := (fun s12 : Int => [some (D.int prime0), some (D.int length0), some (D.int many0), some (D.int x7), some (D.int p3.1), some ((eL D.int) s6), some (D.int s12), none, none])) total_29 rfl))))))) (fun s12 => (q_aa (a_setI (i := 5) (xs := s6) (tx (r := ((T__law_choose length0 x7).bind fun a30 => ((some s12).bind fun a31 => (mulO a30 a31)))) (t_2 o_mul (tx (r := (T__law_choose length0 x7)) (t_call2p ok_T__law_choose (t_var (e := D.int) (a := length0) 1 rfl) (t_var (e := D.int) (a := x7) 3 rfl)) rfl) (t_var (e := D.int) (a := s12) 6 rfl)) rfl) (t_var (e := D.int) (a := x7) 3 rfl) rfl) (fun found_32 => (a_wipe (ws := [3, 6, 7, 8]) (E := (fun s8 : (List Int) => [some (D.int prime0), some (D.int length0), some (D.int many0), none, some (D.int p3.1), some ((eL D.int) s8), none, none, none])) found_32 rfl))))))))) (fun s8 => (r_ret (t_var (e := (eL D.int)) (a := s8) 5 rfl))))))
-- unlike_places : I, TI, TI -> TI
@[irreducible] def T_unlike_places (prime0 : Int) (word0 : (List Int)) (items0 : (List Int)) : Option (List Int) :=
  ((((szO word0).map fun ys => enumI 0 ys).bind fun as => fmO (fun x1 : (Int × Int) => ((T_worth prime0 items0 (x1.1 + (1 : Int))).bind fun a2 => ((some x1.2).bind fun a3 => (some (!decide (a2 = a3)))))) (fun x1 : (Int × Int) => (some x1.1)) as).bind fun a4 => (some a4))
theorem ok_T_unlike_places (prime0 : Int) (word0 : (List Int)) (items0 : (List Int)) : F_unlike_places [D.int prime0, (eT D.int) word0, (eT D.int) items0] = (T_unlike_places prime0 word0 items0).map (eT D.int) := by
  unfold T_unlike_places
  exact fn_r (er := (eT D.int)) rfl (r_ret (tx (r := ((((szO word0).map fun ys => enumI 0 ys).bind fun as => fmO (fun x1 : (Int × Int) => ((T_worth prime0 items0 (x1.1 + (1 : Int))).bind fun a2 => ((some x1.2).bind fun a3 => (some (!decide (a2 = a3)))))) (fun x1 : (Int × Int) => (some x1.1)) as).bind fun a4 => (some a4))) (t_call1 o_tupL (t_comp (e1 := (eP2 D.int D.int)) (e2 := D.int) (fun x1 => [some (D.int prime0), some ((eT D.int) word0), some ((eT D.int) items0), some (D.int x1.1), some (D.int x1.2)]) (p := (fun x1 : (Int × Int) => ((T_worth prime0 items0 (x1.1 + (1 : Int))).bind fun a2 => ((some x1.2).bind fun a3 => (some (!decide (a2 = a3))))))) (h := (fun x1 : (Int × Int) => (some x1.1))) (th (r := ((szO word0).map fun ys => enumI 0 ys)) (ts_enumTp (t_var (e := (eT D.int)) (a := word0) 1 rfl)) rfl) (fun _ => rfl) (fun x1 => (tb_x (tx (r := ((T_worth prime0 items0 (x1.1 + (1 : Int))).bind fun a2 => ((some x1.2).bind fun a3 => (some (!decide (a2 = a3)))))) (t_2 (o_ne eq_int (by decide)) (tx (r := (T_worth prime0 items0 (x1.1 + (1 : Int)))) (t_call3p ok_T_worth (t_var (e := D.int) (a := prime0) 0 rfl) (t_var (e := (eT D.int)) (a := items0) 2 rfl) (tx (r := (some (x1.1 + (1 : Int)))) (t_2p o_add (t_var (e := D.int) (a := x1.1) 3 rfl) (t_c (e := D.int) (a := 1))) rfl)) rfl) (t_var (e := D.int) (a := x1.2) 4 rfl)) rfl))) (fun x1 => (t_var (e := D.int) (a := x1.1) 3 rfl)))) rfl))
-- check_word : I, TI, I -> N
@[irreducible] def T_check_word (prime0 : Int) (word0 : (List Int)) (many0 : Int) : Option Unit :=
  (((T_check_prime prime0).bind fun _ => ((T_check_values prime0 word0).bind fun _ => (((((if (decide ((1 : Int) ≤ ((word0.length : Nat) : Int))) then some (decide (((word0.length : Nat) : Int) < prime0)) else some false).map not).bind fun a2 => if a2 then none else (some ())) : Option Unit).bind fun _ => (((((T_is_within many0 (0 : Int) (((word0.length : Nat) : Int) - (1 : Int))).map not).bind fun a4 => if a4 then none else (some ())) : Option Unit).bind fun _ => (some ()))))).map fun _ => ())
theorem ok_T_check_word (prime0 : Int) (word0 : (List Int)) (many0 : Int) : F_check_word [D.int prime0, (eT D.int) word0, D.int many0] = (T_check_word prime0 word0 many0).map eN := by
  unfold T_check_word
  exact fn_a rfl (q_aa (a_drop (tx (r := (T_check_prime prime0)) (t_call1p ok_T_check_prime (t_var (e := D.int) (a := prime0) 0 rfl)) rfl)) (fun _ => (q_aa (a_drop (tx (r := (T_check_values prime0 word0)) (t_call2p ok_T_check_values (t_var (e := D.int) (a := prime0) 0 rfl) (t_var (e := (eT D.int)) (a := word0) 1 rfl)) rfl)) (fun _ => (q_aa (i_a (E := (fun _ : Unit => [some (D.int prime0), some ((eT D.int) word0), some (D.int many0)])) (tb_not (tb_x (t_chainp c_le c_lt (t_c (e := D.int) (a := 1)) (tx (r := (some ((word0.length : Nat) : Int))) (t_call1p o_lenT (t_var (e := (eT D.int)) (a := word0) 1 rfl)) rfl) (t_var (e := D.int) (a := prime0) 0 rfl)))) a_never (a_skip (E := (fun _ : Unit => [some (D.int prime0), some ((eT D.int) word0), some (D.int many0)])) () rfl)) (fun _ => (q_aa (i_a (E := (fun _ : Unit => [some (D.int prime0), some ((eT D.int) word0), some (D.int many0)])) (tb_not (tb_x (tx (r := (T_is_within many0 (0 : Int) (((word0.length : Nat) : Int) - (1 : Int)))) (t_call3p ok_T_is_within (t_var (e := D.int) (a := many0) 2 rfl) (t_c (e := D.int) (a := 0)) (tx (r := (some (((word0.length : Nat) : Int) - (1 : Int)))) (t_2p o_sub (tx (r := (some ((word0.length : Nat) : Int))) (t_call1p o_lenT (t_var (e := (eT D.int)) (a := word0) 1 rfl)) rfl) (t_c (e := D.int) (a := 1))) rfl)) rfl))) a_never (a_skip (E := (fun _ : Unit => [some (D.int prime0), some ((eT D.int) word0), some (D.int many0)])) () rfl)) (fun _ => (a_skip (E := fun _ : Unit => [some (D.int prime0), some ((eT D.int) word0), some (D.int many0)]) () rfl)))))))))
-- lots : I, I -> LTI
@[irreducible] def T_lots (many0 : Int) (size0 : Int) : Option (List (List Int)) :=
  ((some ([([] : (List Int))] : (List (List Int)))).bind fun found_1 => (((rangeO1 many0).bind fun as => foldO (fun (s2 : (List (List Int))) (x3 : Int) => (((some s2).bind fun a6 => (((szO s2).bind fun as => fmO (fun x5 : (List Int) => (some (decide (((x5.length : Nat) : Int) < size0)))) (fun x5 : (List Int) => (catO x5 ([x3] : (List Int)))) as).bind fun a7 => (catO a6 a7))).bind fun found_8 => (some found_8))) found_1 as).bind fun s4 => (((szO s4).map fun as => (as.filter (fun x9 : (List Int) => (decide (((x9.length : Nat) : Int) = size0)))).map (fun x9 : (List Int) => x9)).bind fun a10 => (sortTO a10))))
theorem ok_T_lots (many0 : Int) (size0 : Int) : F_lots [D.int many0, D.int size0] = (T_lots many0 size0).map (eL (eT D.int)) := by
  unfold T_lots
  exact fn_r (er := (eL (eT D.int))) rfl (q_ar (a_asg (E := (fun found_1 => [some (D.int many0), some (D.int size0), some ((eL (eT D.int)) found_1), none, none])) (t_lstHp (th_consp (t_tupHp (th_nil (e := D.int))) (th_nil (e := (eT D.int))))) (fun _ => rfl)) (fun found_1 => (q_ar (f_a (e := D.int) (E := (fun s4 : (List (List Int)) => [some (D.int many0), some (D.int size0), some ((eL (eT D.int)) s4), none, none])) (s0 := found_1) (fun (s2 : (List (List Int))) (x3 : Int) => [some (D.int many0), some (D.int size0), some ((eL (eT D.int)) s2), some (D.int x3), none]) (step := (fun (s2 : (List (List Int))) (x3 : Int) => (((some s2).bind fun a6 => (((szO s2).bind fun as => fmO (fun x5 : (List Int) => (some (decide (((x5.length : Nat) : Int) < size0)))) (fun x5 : (List Int) => (catO x5 ([x3] : (List Int)))) as).bind fun a7 => (catO a6 a7))).bind fun found_8 => (some found_8)))) (th (r := (rangeO1 many0)) (ts_range1p (t_var (e := D.int) (a := many0) 0 rfl)) rfl) rfl (fun _ => rfl) (fun _ _ => rfl) (fun s2 x3 => (q_aa (a_asg (E := (fun found_8 => [some (D.int many0), some (D.int size0), some ((eL (eT D.int)) found_8), some (D.int x3), none])) (tx (r := ((some s2).bind fun a6 => (((szO s2).bind fun as => fmO (fun x5 : (List Int) => (some (decide (((x5.length : Nat) : Int) < size0)))) (fun x5 : (List Int) => (catO x5 ([x3] : (List Int)))) as).bind fun a7 => (catO a6 a7)))) (t_2 o_addL (t_var (e := (eL (eT D.int))) (a := s2) 2 rfl) (t_comp (e1 := (eT D.int)) (e2 := (eT D.int)) (fun x5 => [some (D.int many0), some (D.int size0), some ((eL (eT D.int)) s2), some (D.int x3), some ((eT D.int) x5)]) (p := (fun x5 : (List Int) => (some (decide (((x5.length : Nat) : Int) < size0))))) (h := (fun x5 : (List Int) => (catO x5 ([x3] : (List Int))))) (th (r := (szO s2)) (ts_lstp (t_var (e := (eL (eT D.int))) (a := s2) 2 rfl)) rfl) (fun _ => rfl) (fun x5 => (tb_x (tx (r := (some (decide (((x5.length : Nat) : Int) < size0)))) (t_2p o_lt (tx (r := (some ((x5.length : Nat) : Int))) (t_call1p o_lenT (t_var (e := (eT D.int)) (a := x5) 4 rfl)) rfl) (t_var (e := D.int) (a := size0) 1 rfl)) rfl))) (fun x5 => (tx (r := (catO x5 ([x3] : (List Int)))) (t_2p o_addT (t_var (e := (eT D.int)) (a := x5) 4 rfl) (t_tupHp (th_consp (t_var (e := D.int) (a := x3) 3 rfl) (th_nil (e := D.int))))) rfl)))) rfl) (fun _ => rfl)) (fun found_8 => (a_wipe (ws := [3]) (E := (fun s4 : (List (List Int)) => [some (D.int many0), some (D.int size0), some ((eL (eT D.int)) s4), none, none])) found_8 rfl))))) (fun s4 => (r_ret (tx (r := (((szO s4).map fun as => (as.filter (fun x9 : (List Int) => (decide (((x9.length : Nat) : Int) = size0)))).map (fun x9 : (List Int) => x9)).bind fun a10 => (sortTO a10))) (t_call1 o_sortedT (t_compF (e1 := (eT D.int)) (e2 := (eT D.int)) (fun x9 => [some (D.int many0), some (D.int size0), some ((eL (eT D.int)) s4), none, some ((eT D.int) x9)]) (p := (fun x9 : (List Int) => (decide (((x9.length : Nat) : Int) = size0)))) (h := (fun x9 : (List Int) => x9)) (th (r := (szO s4)) (ts_lstp (t_var (e := (eL (eT D.int))) (a := s4) 2 rfl)) rfl) (fun _ => rfl) (fun x9 => (tb_x (tx (r := (some (decide (((x9.length : Nat) : Int) = size0)))) (t_2p (o_eq eq_int (by decide)) (tx (r := (some ((x9.length : Nat) : Int))) (t_call1p o_lenT (t_var (e := (eT D.int)) (a := x9) 4 rfl)) rfl) (t_var (e := D.int) (a := size0) 1 rfl)) rfl))) (fun x9 => (t_var (e := (eT D.int)) (a := x9) 4 rfl)))) rfl))))))
-- is_row_1 : LPII -> B
@[irreducible] def T_is_row_1 (thing0 : (List (Int × Int))) : Option Bool :=
  (some true)
theorem ok_T_is_row_1 (thing0 : (List (Int × Int))) : F_is_row [(eL (eP2 D.int D.int)) thing0] = (T_is_row_1 thing0).map D.bl := by
  unfold T_is_row_1
  exact fn_r (er := D.bl) rfl (r_ret (tx (r := (some true)) (t_1p isi2_lt_L (t_var (e := (eL (eP2 D.int D.int))) (a := thing0) 0 rfl)) rfl))
-- is_row_2 : PII -> B
@[irreducible] def T_is_row_2 (thing0 : (Int × Int)) : Option Bool :=
  (some true)
theorem ok_T_is_row_2 (thing0 : (Int × Int)) : F_is_row [(eP2 D.int D.int) thing0] = (T_is_row_2 thing0).map D.bl := by
  unfold T_is_row_2
  exact fn_r (er := D.bl) rfl (r_ret (tx (r := (some true)) (t_1p (fun _ => isi2_lt_D _) (t_var (e := (eP2 D.int D.int)) (a := thing0) 0 rfl)) rfl))
-- is_row_3 : LI -> B
@[irreducible] def T_is_row_3 (thing0 : (List Int)) : Option Bool :=
  (some true)
theorem ok_T_is_row_3 (thing0 : (List Int)) : F_is_row [(eL D.int) thing0] = (T_is_row_3 thing0).map D.bl := by
  unfold T_is_row_3
  exact fn_r (er := D.bl) rfl (r_ret (tx (r := (some true)) (t_1p isi2_lt_L (t_var (e := (eL D.int)) (a := thing0) 0 rfl)) rfl))
-- check_values_1 : I, LI -> N
@[irreducible] def T_check_values_1 (prime0 : Int) (row0 : (List Int)) : Option Unit :=
  (((T_check_prime prime0).bind fun _ => ((((((T_is_row_3 row0).map not).bind fun a3 => (if a3 then some true else ((((szO row0).bind fun as => mapO (fun x1 : Int => (T_is_within x1 (0 : Int) (prime0 - (1 : Int)))) as).bind fun a2 => (some (a2.all id))).map not))).bind fun a5 => if a5 then none else (some ())) : Option Unit).bind fun _ => (some ()))).map fun _ => ())
theorem ok_T_check_values_1 (prime0 : Int) (row0 : (List Int)) : F_check_values [D.int prime0, (eL D.int) row0] = (T_check_values_1 prime0 row0).map eN := by
  unfold T_check_values_1
  exact fn_a rfl (q_aa (a_drop (tx (r := (T_check_prime prime0)) (t_call1p ok_T_check_prime (t_var (e := D.int) (a := prime0) 0 rfl)) rfl)) (fun _ => (q_aa (i_a (E := (fun _ : Unit => [some (D.int prime0), some ((eL D.int) row0), none])) (tb_or (tb_not (tb_x (tx (r := (T_is_row_3 row0)) (t_call1p ok_T_is_row_3 (t_var (e := (eL D.int)) (a := row0) 1 rfl)) rfl))) (tb_not (tb_x (tx (r := (((szO row0).bind fun as => mapO (fun x1 : Int => (T_is_within x1 (0 : Int) (prime0 - (1 : Int)))) as).bind fun a2 => (some (a2.all id)))) (t_call1 o_all (t_compA (e1 := D.int) (e2 := D.bl) (fun x1 => [some (D.int prime0), some ((eL D.int) row0), some (D.int x1)]) (h := (fun x1 : Int => (T_is_within x1 (0 : Int) (prime0 - (1 : Int))))) (th (r := (szO row0)) (ts_lstp (t_var (e := (eL D.int)) (a := row0) 1 rfl)) rfl) (fun _ => rfl) (fun x1 => (tx (r := (T_is_within x1 (0 : Int) (prime0 - (1 : Int)))) (t_call3p ok_T_is_within (t_var (e := D.int) (a := x1) 2 rfl) (t_c (e := D.int) (a := 0)) (tx (r := (some (prime0 - (1 : Int)))) (t_2p o_sub (t_var (e := D.int) (a := prime0) 0 rfl) (t_c (e := D.int) (a := 1))) rfl)) rfl)))) rfl)))) a_never (a_skip (E := (fun _ : Unit => [some (D.int prime0), some ((eL D.int) row0), none])) () rfl)) (fun _ => (a_skip (E := fun _ : Unit => [some (D.int prime0), some ((eL D.int) row0), none]) () rfl)))))
-- check_places : I, LI -> N
@[irreducible] def T_check_places (prime0 : Int) (places0 : (List Int)) : Option Unit :=
  (((T_check_values_1 prime0 places0).bind fun _ => (((((lenSetO places0).bind fun a1 => ((some ((places0.length : Nat) : Int)).bind fun a2 => (some (!decide (a1 = a2))))).bind fun a4 => if a4 then none else (some ())) : Option Unit).bind fun _ => (some ()))).map fun _ => ())
theorem ok_T_check_places (prime0 : Int) (places0 : (List Int)) : F_check_places [D.int prime0, (eL D.int) places0] = (T_check_places prime0 places0).map eN := by
  unfold T_check_places
  exact fn_a rfl (q_aa (a_drop (tx (r := (T_check_values_1 prime0 places0)) (t_call2p ok_T_check_values_1 (t_var (e := D.int) (a := prime0) 0 rfl) (t_var (e := (eL D.int)) (a := places0) 1 rfl)) rfl)) (fun _ => (q_aa (i_a (E := (fun _ : Unit => [some (D.int prime0), some ((eL D.int) places0)])) (tb_x (tx (r := ((lenSetO places0).bind fun a1 => ((some ((places0.length : Nat) : Int)).bind fun a2 => (some (!decide (a1 = a2)))))) (t_2 (o_ne eq_int (by decide)) (tx (r := (lenSetO places0)) (t_1p o_lenSet (t_var (e := (eL D.int)) (a := places0) 1 rfl)) rfl) (tx (r := (some ((places0.length : Nat) : Int))) (t_call1p o_lenL (t_var (e := (eL D.int)) (a := places0) 1 rfl)) rfl)) rfl)) a_never (a_skip (E := (fun _ : Unit => [some (D.int prime0), some ((eL D.int) places0)])) () rfl)) (fun _ => (a_skip (E := fun _ : Unit => [some (D.int prime0), some ((eL D.int) places0)]) () rfl)))))
-- times_root : I, LI, I -> LI
@[irreducible] def T_times_root (prime0 : Int) (items0 : (List Int)) (root0 : Int) : Option (List Int) :=
  ((catO ([(0 : Int)] : (List Int)) items0).bind fun found_1 => ((((szO items0).map fun ys => enumI 0 ys).bind fun as => foldO (fun (s2 : (List Int)) (x3 : (Int × Int)) => ((((((atI s2 x3.1).bind fun a5 => ((mulO root0 x3.2).bind fun a6 => (some (a5 - a6)))).bind fun a7 => (some a7)).bind fun a8 => ((some prime0).bind fun a9 => (modO a8 a9))).bind fun a11 => ((some x3.1).bind fun a12 => (setO s2 a12 a11))).bind fun found_10 => (some found_10))) found_1 as).bind fun s4 => (some s4)))
theorem ok_T_times_root (prime0 : Int) (items0 : (List Int)) (root0 : Int) : F_times_root [D.int prime0, (eL D.int) items0, D.int root0] = (T_times_root prime0 items0 root0).map (eL D.int) := by
  unfold T_times_root
  exact fn_r (er := (eL D.int)) rfl (q_ar (a_new (tx (r := (catO ([(0 : Int)] : (List Int)) items0)) (t_2p o_addLN (t_lstHp (th_consp (t_c (e := D.int) (a := 0)) (th_nil (e := D.int)))) (tx (r := (some items0)) (t_call1p o_lstL (t_var (e := (eL D.int)) (a := items0) 1 rfl)) rfl)) rfl) rfl) (fun found_1 => (q_ar (f_a (e := (eP2 D.int D.int)) (E := (fun s4 : (List Int) => [some (D.int prime0), some ((eL D.int) items0), some (D.int root0), some ((eL D.int) s4), none, none])) (s0 := found_1) (fun (s2 : (List Int)) (x3 : (Int × Int)) => [some (D.int prime0), some ((eL D.int) items0), some (D.int root0), some ((eL D.int) s2), some (D.int x3.1), some (D.int x3.2)]) (step := (fun (s2 : (List Int)) (x3 : (Int × Int)) => ((((((atI s2 x3.1).bind fun a5 => ((mulO root0 x3.2).bind fun a6 => (some (a5 - a6)))).bind fun a7 => (some a7)).bind fun a8 => ((some prime0).bind fun a9 => (modO a8 a9))).bind fun a11 => ((some x3.1).bind fun a12 => (setO s2 a12 a11))).bind fun found_10 => (some found_10)))) (th (r := ((szO items0).map fun ys => enumI 0 ys)) (ts_enumLp (t_var (e := (eL D.int)) (a := items0) 1 rfl)) rfl) rfl (fun _ => rfl) (fun _ _ => rfl) (fun s2 x3 => (q_aa (a_setI (i := 3) (xs := s2) (tx (r := ((((atI s2 x3.1).bind fun a5 => ((mulO root0 x3.2).bind fun a6 => (some (a5 - a6)))).bind fun a7 => (some a7)).bind fun a8 => ((some prime0).bind fun a9 => (modO a8 a9)))) (t_2 o_mod (tx (r := (((atI s2 x3.1).bind fun a5 => ((mulO root0 x3.2).bind fun a6 => (some (a5 - a6)))).bind fun a7 => (some a7))) (t_call1 o_toInt (tx (r := ((atI s2 x3.1).bind fun a5 => ((mulO root0 x3.2).bind fun a6 => (some (a5 - a6))))) (t_2 o_sub (tx (r := (atI s2 x3.1)) (t_ownIxp (fun _ => rfl) (i := 3) (xs := s2) rfl (t_var (e := D.int) (a := x3.1) 4 rfl)) rfl) (tx (r := (mulO root0 x3.2)) (t_2p o_mul (t_var (e := D.int) (a := root0) 2 rfl) (t_var (e := D.int) (a := x3.2) 5 rfl)) rfl)) rfl)) rfl) (t_var (e := D.int) (a := prime0) 0 rfl)) rfl) (t_var (e := D.int) (a := x3.1) 4 rfl) rfl) (fun found_10 => (a_wipe (ws := [4, 5]) (E := (fun s4 : (List Int) => [some (D.int prime0), some ((eL D.int) items0), some (D.int root0), some ((eL D.int) s4), none, none])) found_10 rfl))))) (fun s4 => (r_ret (t_var (e := (eL D.int)) (a := s4) 3 rfl))))))
-- power : I, I, I -> I
@[irreducible] def T_power (prime0 : Int) (base0 : Int) (many0 : Int) : Option Int :=
  ((T_check_prime prime0).bind fun _ => ((((((T_is_integer base0).map not).bind fun a1 => (if a1 then some true else ((T_is_within many0 (0 : Int) (1000 : Int)).map not))).bind fun a3 => if a3 then none else (some ())) : Option Unit).bind fun _ => ((some (1 : Int)).bind fun found_4 => (((rangeO1 many0).bind fun as => foldO (fun (s5 : Int) (x6 : Int) => ((((mulO s5 base0).bind fun a8 => (some a8)).bind fun a9 => ((some prime0).bind fun a10 => (modO a9 a10))).bind fun found_11 => (some found_11))) found_4 as).bind fun s7 => (some s7)))))
theorem ok_T_power (prime0 : Int) (base0 : Int) (many0 : Int) : F_power [D.int prime0, D.int base0, D.int many0] = (T_power prime0 base0 many0).map D.int := by
  unfold T_power
  exact fn_r (er := D.int) rfl (q_ar (a_drop (tx (r := (T_check_prime prime0)) (t_call1p ok_T_check_prime (t_var (e := D.int) (a := prime0) 0 rfl)) rfl)) (fun _ => (q_ar (i_a (E := (fun _ : Unit => [some (D.int prime0), some (D.int base0), some (D.int many0), none, none])) (tb_or (tb_not (tb_x (tx (r := (T_is_integer base0)) (t_call1p ok_T_is_integer (t_var (e := D.int) (a := base0) 1 rfl)) rfl))) (tb_not (tb_x (tx (r := (T_is_within many0 (0 : Int) (1000 : Int))) (t_call3p ok_T_is_within (t_var (e := D.int) (a := many0) 2 rfl) (t_c (e := D.int) (a := 0)) (t_c (e := D.int) (a := 1000))) rfl)))) a_never (a_skip (E := (fun _ : Unit => [some (D.int prime0), some (D.int base0), some (D.int many0), none, none])) () rfl)) (fun _ => (q_ar (a_asg (E := (fun found_4 => [some (D.int prime0), some (D.int base0), some (D.int many0), some (D.int found_4), none])) (t_c (e := D.int) (a := 1)) (fun _ => rfl)) (fun found_4 => (q_ar (f_a (e := D.int) (E := (fun s7 : Int => [some (D.int prime0), some (D.int base0), some (D.int many0), some (D.int s7), none])) (s0 := found_4) (fun (s5 : Int) (x6 : Int) => [some (D.int prime0), some (D.int base0), some (D.int many0), some (D.int s5), some (D.int x6)]) (step := (fun (s5 : Int) (x6 : Int) => ((((mulO s5 base0).bind fun a8 => (some a8)).bind fun a9 => ((some prime0).bind fun a10 => (modO a9 a10))).bind fun found_11 => (some found_11)))) (th (r := (rangeO1 many0)) (ts_range1p (t_var (e := D.int) (a := many0) 2 rfl)) rfl) rfl (fun _ => rfl) (fun _ _ => rfl) (fun s5 x6 => (q_aa (a_asg (E := (fun found_11 => [some (D.int prime0), some (D.int base0), some (D.int many0), some (D.int found_11), some (D.int x6)])) (tx (r := (((mulO s5 base0).bind fun a8 => (some a8)).bind fun a9 => ((some prime0).bind fun a10 => (modO a9 a10)))) (t_2 o_mod (tx (r := ((mulO s5 base0).bind fun a8 => (some a8))) (t_call1 o_toInt (tx (r := (mulO s5 base0)) (t_2p o_mul (t_var (e := D.int) (a := s5) 3 rfl) (t_var (e := D.int) (a := base0) 1 rfl)) rfl)) rfl) (t_var (e := D.int) (a := prime0) 0 rfl)) rfl) (fun _ => rfl)) (fun found_11 => (a_wipe (ws := [4]) (E := (fun s7 : Int => [some (D.int prime0), some (D.int base0), some (D.int many0), some (D.int s7), none])) found_11 rfl))))) (fun s7 => (r_ret (t_var (e := D.int) (a := s7) 3 rfl))))))))))
-- through : I, LPII -> TI
@[irreducible] def T_through (prime0 : Int) (pairs0 : (List (Int × Int))) : Option (List Int) :=
  ((((((T_is_row_1 pairs0).map not).bind fun a4 => (if a4 then some true else ((((szO pairs0).bind fun as => mapO (fun x1 : (Int × Int) => ((T_is_row_2 x1).bind fun a2 => (if a2 then (some (decide ((2 : Int) = (2 : Int)))) else some false))) as).bind fun a3 => (some (a3.all id))).map not))).bind fun a6 => if a6 then none else (some ())) : Option Unit).bind fun _ => (((szO pairs0).map fun as => as.map (fun x7 : (Int × Int) => x7.1)).bind fun places_8 => ((T_check_places prime0 places_8).bind fun _ => (((some prime0).bind fun a10 => (((szO pairs0).map fun as => as.map (fun x9 : (Int × Int) => x9.2)).bind fun a11 => (T_check_values_1 a10 a11))).bind fun _ => ((repO ([(0 : Int)] : (List Int)) ((pairs0.length : Nat) : Int)).bind fun found_12 => (((szO pairs0).bind fun as => foldO (fun (s13 : (List Int)) (x14 : (Int × Int)) => (((some ([(1 : Int)] : (List Int))).bind fun a17 => ((some (1 : Int)).bind fun a18 => (some (a17, a18)))).bind fun p16 => (((szO places_8).bind fun as => foldO (fun (s19 : ((List Int) × Int)) (x20 : Int) => (((if (!decide (x20 = x14.1)) then ((T_times_root prime0 s19.1 x20).bind fun base_28 => ((((mulO s19.2 (x14.1 - x20)).bind fun a29 => (some a29)).bind fun a30 => ((some prime0).bind fun a31 => (modO a30 a31))).bind fun bottom_32 => (some (base_28, bottom_32)))) else (some (s19.1, s19.2))) : Option ((List Int) × Int)).bind fun s22 => (some (s22.1, s22.2)))) (p16.1, p16.2) as).bind fun s21 => (((((some x14.2).bind fun a33 => ((if (decide ((2 : Int) < prime0)) then (T_power prime0 s21.2 (prime0 - (2 : Int))) else (some (1 : Int))).bind fun a34 => (mulO a33 a34))).bind fun a35 => (some a35)).bind fun a36 => ((some prime0).bind fun a37 => (modO a36 a37))).bind fun share_38 => ((((some s13).bind fun a41 => (((some s21.1).bind fun a39 => ((repO ([(0 : Int)] : (List Int)) (((s13.length : Nat) : Int) - ((s21.1.length : Nat) : Int))).bind fun a40 => (catO a39 a40))).bind fun a42 => (zipO a41 a42))).bind fun as => mapO (fun x43 : (Int × Int) => ((((some x43.1).bind fun a44 => ((mulO share_38 x43.2).bind fun a45 => (some (a44 + a45)))).bind fun a46 => (some a46)).bind fun a47 => ((some prime0).bind fun a48 => (modO a47 a48)))) as).bind fun found_49 => (some found_49)))))) found_12 as).bind fun s15 => (some s15)))))))
theorem ok_T_through (prime0 : Int) (pairs0 : (List (Int × Int))) : F_through [D.int prime0, (eL (eP2 D.int D.int)) pairs0] = (T_through prime0 pairs0).map (eT D.int) := by
  unfold T_through
  exact fn_r (er := (eT D.int)) rfl (q_ar (i_a (E := (fun _ : Unit => [some (D.int prime0), some ((eL (eP2 D.int D.int)) pairs0), none, none, none, none, none, none, none, none, none, none, none])) (tb_or (tb_not (tb_x (tx (r := (T_is_row_1 pairs0)) (t_call1p ok_T_is_row_1 (t_var (e := (eL (eP2 D.int D.int))) (a := pairs0) 1 rfl)) rfl))) (tb_not (tb_x (tx (r := (((szO pairs0).bind fun as => mapO (fun x1 : (Int × Int) => ((T_is_row_2 x1).bind fun a2 => (if a2 then (some (decide ((2 : Int) = (2 : Int)))) else some false))) as).bind fun a3 => (some (a3.all id)))) (t_call1 o_all (t_compA (e1 := (eP2 D.int D.int)) (e2 := D.bl) (fun x1 => [some (D.int prime0), some ((eL (eP2 D.int D.int)) pairs0), none, none, none, none, none, none, some ((eP2 D.int D.int) x1), none, none, none, none]) (h := (fun x1 : (Int × Int) => ((T_is_row_2 x1).bind fun a2 => (if a2 then (some (decide ((2 : Int) = (2 : Int)))) else some false)))) (th (r := (szO pairs0)) (ts_lstp (t_var (e := (eL (eP2 D.int D.int))) (a := pairs0) 1 rfl)) rfl) (fun _ => rfl) (fun x1 => (t_and (tx (r := (T_is_row_2 x1)) (t_call1p ok_T_is_row_2 (t_var (e := (eP2 D.int D.int)) (a := x1) 8 rfl)) rfl) (tx (r := (some (decide ((2 : Int) = (2 : Int))))) (t_2p (o_eq eq_int (by decide)) (tx (r := (some (2 : Int))) (t_call1p (e1 := (eP2 D.int D.int)) (top := fun _ => some 2) (fun _ => rfl) (t_var (e := (eP2 D.int D.int)) (a := x1) 8 rfl)) rfl) (t_c (e := D.int) (a := 2))) rfl))))) rfl)))) a_never (a_skip (E := (fun _ : Unit => [some (D.int prime0), some ((eL (eP2 D.int D.int)) pairs0), none, none, none, none, none, none, none, none, none, none, none])) () rfl)) (fun _ => (q_ar (a_asg (E := (fun places_8 => [some (D.int prime0), some ((eL (eP2 D.int D.int)) pairs0), some ((eL D.int) places_8), none, none, none, none, none, none, none, none, none, none])) (t_compP (e1 := (eP2 D.int D.int)) (e2 := D.int) (fun x7 => [some (D.int prime0), some ((eL (eP2 D.int D.int)) pairs0), none, none, none, none, none, none, some ((eP2 D.int D.int) x7), none, none, none, none]) (h := (fun x7 : (Int × Int) => x7.1)) (th (r := (szO pairs0)) (ts_lstp (t_var (e := (eL (eP2 D.int D.int))) (a := pairs0) 1 rfl)) rfl) (fun _ => rfl) (fun x7 => (t_prp (e1 := (eP2 D.int D.int)) (e2 := D.int) (k := 0) (pr := fun p => p.1) (t_var (e := (eP2 D.int D.int)) (a := x7) 8 rfl) (fun _ => rfl)))) (fun _ => rfl)) (fun places_8 => (q_ar (a_drop (tx (r := (T_check_places prime0 places_8)) (t_call2p ok_T_check_places (t_var (e := D.int) (a := prime0) 0 rfl) (t_var (e := (eL D.int)) (a := places_8) 2 rfl)) rfl)) (fun _ => (q_ar (a_drop (tx (r := ((some prime0).bind fun a10 => (((szO pairs0).map fun as => as.map (fun x9 : (Int × Int) => x9.2)).bind fun a11 => (T_check_values_1 a10 a11)))) (t_call2 ok_T_check_values_1 (t_var (e := D.int) (a := prime0) 0 rfl) (t_compP (e1 := (eP2 D.int D.int)) (e2 := D.int) (fun x9 => [some (D.int prime0), some ((eL (eP2 D.int D.int)) pairs0), some ((eL D.int) places_8), none, none, none, none, none, some ((eP2 D.int D.int) x9), none, none, none, none]) (h := (fun x9 : (Int × Int) => x9.2)) (th (r := (szO pairs0)) (ts_lstp (t_var (e := (eL (eP2 D.int D.int))) (a := pairs0) 1 rfl)) rfl) (fun _ => rfl) (fun x9 => (t_prp (e1 := (eP2 D.int D.int)) (e2 := D.int) (k := 1) (pr := fun p => p.2) (t_var (e := (eP2 D.int D.int)) (a := x9) 8 rfl) (fun _ => rfl))))) rfl)) (fun _ => (q_ar (a_asg (E := (fun found_12 => [some (D.int prime0), some ((eL (eP2 D.int D.int)) pairs0), some ((eL D.int) places_8), some ((eL D.int) found_12), none, none, none, none, none, none, none, none, none])) (tx (r := (repO ([(0 : Int)] : (List Int)) ((pairs0.length : Nat) : Int))) (t_2p o_repL (t_lstHp (th_consp (t_c (e := D.int) (a := 0)) (th_nil (e := D.int)))) (tx (r := (some ((pairs0.length : Nat) : Int))) (t_call1p o_lenL (t_var (e := (eL (eP2 D.int D.int))) (a := pairs0) 1 rfl)) rfl)) rfl) (fun _ => rfl)) (fun found_12 => (q_ar (f_a (e := (eP2 D.int D.int)) (E := (fun s15 : (List Int) => [some (D.int prime0), some ((eL (eP2 D.int D.int)) pairs0), some ((eL D.int) places_8), some ((eL D.int) s15), none, none, none, none, none, none, none, none, none])) (s0 := found_12) (fun (s13 : (List Int)) (x14 : (Int × Int)) => [some (D.int prime0), some ((eL (eP2 D.int D.int)) pairs0), some ((eL D.int) places_8), some ((eL D.int) s13), some (D.int x14.1), some (D.int x14.2), none, none, none, none, none, none, none]) (step := (fun (s13 : (List Int)) (x14 : (Int × Int)) => (((some ([(1 : Int)] : (List Int))).bind fun a17 => ((some (1 : Int)).bind fun a18 => (some (a17, a18)))).bind fun p16 => (((szO places_8).bind fun as => foldO (fun (s19 : ((List Int) × Int)) (x20 : Int) => (((if (!decide (x20 = x14.1)) then ((T_times_root prime0 s19.1 x20).bind fun base_28 => ((((mulO s19.2 (x14.1 - x20)).bind fun a29 => (some a29)).bind fun a30 => ((some prime0).bind fun a31 => (modO a30 a31))).bind fun bottom_32 => (some (base_28, bottom_32)))) else (some (s19.1, s19.2))) : Option ((List Int) × Int)).bind fun s22 => (some (s22.1, s22.2)))) (p16.1, p16.2) as).bind fun s21 => (((((some x14.2).bind fun a33 => ((if (decide ((2 : Int) < prime0)) then (T_power prime0 s21.2 (prime0 - (2 : Int))) else (some (1 : Int))).bind fun a34 => (mulO a33 a34))).bind fun a35 => (some a35)).bind fun a36 => ((some prime0).bind fun a37 => (modO a36 a37))).bind fun share_38 => ((((some s13).bind fun a41 => (((some s21.1).bind fun a39 => ((repO ([(0 : Int)] : (List Int)) (((s13.length : Nat) : Int) - ((s21.1.length : Nat) : Int))).bind fun a40 => (catO a39 a40))).bind fun a42 => (zipO a41 a42))).bind fun as => mapO (fun x43 : (Int × Int) => ((((some x43.1).bind fun a44 => ((mulO share_38 x43.2).bind fun a45 => (some (a44 + a45)))).bind fun a46 => (some a46)).bind fun a47 => ((some prime0).bind fun a48 => (modO a47 a48)))) as).bind fun found_49 => (some found_49))))))) (th (r := (szO pairs0)) (ts_lstp (t_var (e := (eL (eP2 D.int D.int))) (a := pairs0) 1 rfl)) rfl) rfl (fun _ => rfl) (fun _ _ => rfl) (fun s13 x14 => (q_aa (ta (E' := fun p16 => [some (D.int prime0), some ((eL (eP2 D.int D.int)) pairs0), some ((eL D.int) places_8), some ((eL D.int) s13), some (D.int x14.1), some (D.int x14.2), none, none, none, some ((eL D.int) p16.1), some (D.int p16.2), none, none]) (a_par (t_lstHp (th_consp (t_c (e := D.int) (a := 1)) (th_nil (e := D.int)))) (t_c (e := D.int) (a := 1))) rfl) (fun p16 => (q_aa (f_a (e := D.int) (E := (fun s21 : ((List Int) × Int) => [some (D.int prime0), some ((eL (eP2 D.int D.int)) pairs0), some ((eL D.int) places_8), some ((eL D.int) s13), some (D.int x14.1), some (D.int x14.2), none, none, none, some ((eL D.int) s21.1), some (D.int s21.2), none, none])) (s0 := (p16.1, p16.2)) (fun (s19 : ((List Int) × Int)) (x20 : Int) => [some (D.int prime0), some ((eL (eP2 D.int D.int)) pairs0), some ((eL D.int) places_8), some ((eL D.int) s13), some (D.int x14.1), some (D.int x14.2), some (D.int x20), none, none, some ((eL D.int) s19.1), some (D.int s19.2), none, none]) (step := (fun (s19 : ((List Int) × Int)) (x20 : Int) => (((if (!decide (x20 = x14.1)) then ((T_times_root prime0 s19.1 x20).bind fun base_28 => ((((mulO s19.2 (x14.1 - x20)).bind fun a29 => (some a29)).bind fun a30 => ((some prime0).bind fun a31 => (modO a30 a31))).bind fun bottom_32 => (some (base_28, bottom_32)))) else (some (s19.1, s19.2))) : Option ((List Int) × Int)).bind fun s22 => (some (s22.1, s22.2))))) (th (r := (szO places_8)) (ts_lstp (t_var (e := (eL D.int)) (a := places_8) 2 rfl)) rfl) rfl (fun _ => rfl) (fun _ _ => rfl) (fun s19 x20 => (q_aa (i_ap (E := (fun s22 : ((List Int) × Int) => [some (D.int prime0), some ((eL (eP2 D.int D.int)) pairs0), some ((eL D.int) places_8), some ((eL D.int) s13), some (D.int x14.1), some (D.int x14.2), some (D.int x20), none, none, some ((eL D.int) s22.1), some (D.int s22.2), none, none])) (tb_x (tx (r := (some (!decide (x20 = x14.1)))) (t_2p (o_ne eq_int (by decide)) (t_var (e := D.int) (a := x20) 6 rfl) (t_var (e := D.int) (a := x14.1) 4 rfl)) rfl)) (q_aa (a_asg (E := (fun base_28 => [some (D.int prime0), some ((eL (eP2 D.int D.int)) pairs0), some ((eL D.int) places_8), some ((eL D.int) s13), some (D.int x14.1), some (D.int x14.2), some (D.int x20), none, none, some ((eL D.int) base_28), some (D.int s19.2), none, none])) (tx (r := (T_times_root prime0 s19.1 x20)) (t_call3p ok_T_times_root (t_var (e := D.int) (a := prime0) 0 rfl) (t_var (e := (eL D.int)) (a := s19.1) 9 rfl) (t_var (e := D.int) (a := x20) 6 rfl)) rfl) (fun _ => rfl)) (fun base_28 => (q_aa (a_asg (E := (fun bottom_32 => [some (D.int prime0), some ((eL (eP2 D.int D.int)) pairs0), some ((eL D.int) places_8), some ((eL D.int) s13), some (D.int x14.1), some (D.int x14.2), some (D.int x20), none, none, some ((eL D.int) base_28), some (D.int bottom_32), none, none])) (tx (r := (((mulO s19.2 (x14.1 - x20)).bind fun a29 => (some a29)).bind fun a30 => ((some prime0).bind fun a31 => (modO a30 a31)))) (t_2 o_mod (tx (r := ((mulO s19.2 (x14.1 - x20)).bind fun a29 => (some a29))) (t_call1 o_toInt (tx (r := (mulO s19.2 (x14.1 - x20))) (t_2p o_mul (t_var (e := D.int) (a := s19.2) 10 rfl) (tx (r := (some (x14.1 - x20))) (t_2p o_sub (t_var (e := D.int) (a := x14.1) 4 rfl) (t_var (e := D.int) (a := x20) 6 rfl)) rfl)) rfl)) rfl) (t_var (e := D.int) (a := prime0) 0 rfl)) rfl) (fun _ => rfl)) (fun bottom_32 => (a_skip (E := (fun s22 : ((List Int) × Int) => [some (D.int prime0), some ((eL (eP2 D.int D.int)) pairs0), some ((eL D.int) places_8), some ((eL D.int) s13), some (D.int x14.1), some (D.int x14.2), some (D.int x20), none, none, some ((eL D.int) s22.1), some (D.int s22.2), none, none])) (base_28, bottom_32) rfl))))) (a_skip (E := (fun s22 : ((List Int) × Int) => [some (D.int prime0), some ((eL (eP2 D.int D.int)) pairs0), some ((eL D.int) places_8), some ((eL D.int) s13), some (D.int x14.1), some (D.int x14.2), some (D.int x20), none, none, some ((eL D.int) s22.1), some (D.int s22.2), none, none])) (s19.1, s19.2) rfl)) (fun s22 => (a_wipe (ws := [6]) (E := (fun s21 : ((List Int) × Int) => [some (D.int prime0), some ((eL (eP2 D.int D.int)) pairs0), some ((eL D.int) places_8), some ((eL D.int) s13), some (D.int x14.1), some (D.int x14.2), none, none, none, some ((eL D.int) s21.1), some (D.int s21.2), none, none])) (s22.1, s22.2) rfl))))) (fun s21 => (q_aa (a_asg (E := (fun share_38 => [some (D.int prime0), some ((eL (eP2 D.int D.int)) pairs0), some ((eL D.int) places_8), some ((eL D.int) s13), some (D.int x14.1), some (D.int x14.2), none, some (D.int share_38), none, some ((eL D.int) s21.1), some (D.int s21.2), none, none])) (tx (r := ((((some x14.2).bind fun a33 => ((if (decide ((2 : Int) < prime0)) then (T_power prime0 s21.2 (prime0 - (2 : Int))) else (some (1 : Int))).bind fun a34 => (mulO a33 a34))).bind fun a35 => (some a35)).bind fun a36 => ((some prime0).bind fun a37 => (modO a36 a37)))) (t_2 o_mod (tx (r := (((some x14.2).bind fun a33 => ((if (decide ((2 : Int) < prime0)) then (T_power prime0 s21.2 (prime0 - (2 : Int))) else (some (1 : Int))).bind fun a34 => (mulO a33 a34))).bind fun a35 => (some a35))) (t_call1 o_toInt (tx (r := ((some x14.2).bind fun a33 => ((if (decide ((2 : Int) < prime0)) then (T_power prime0 s21.2 (prime0 - (2 : Int))) else (some (1 : Int))).bind fun a34 => (mulO a33 a34)))) (t_2 o_mul (t_var (e := D.int) (a := x14.2) 5 rfl) (t_ifp (tb_x (tx (r := (some (decide ((2 : Int) < prime0)))) (t_2p o_gt (t_var (e := D.int) (a := prime0) 0 rfl) (t_c (e := D.int) (a := 2))) rfl)) (tx (r := (T_power prime0 s21.2 (prime0 - (2 : Int)))) (t_call3p ok_T_power (t_var (e := D.int) (a := prime0) 0 rfl) (t_var (e := D.int) (a := s21.2) 10 rfl) (tx (r := (some (prime0 - (2 : Int)))) (t_2p o_sub (t_var (e := D.int) (a := prime0) 0 rfl) (t_c (e := D.int) (a := 2))) rfl)) rfl) (t_c (e := D.int) (a := 1)))) rfl)) rfl) (t_var (e := D.int) (a := prime0) 0 rfl)) rfl) (fun _ => rfl)) (fun share_38 => (q_aa (a_asg (E := (fun found_49 => [some (D.int prime0), some ((eL (eP2 D.int D.int)) pairs0), some ((eL D.int) places_8), some ((eL D.int) found_49), some (D.int x14.1), some (D.int x14.2), none, some (D.int share_38), none, some ((eL D.int) s21.1), some (D.int s21.2), none, none])) (t_compA (e1 := (eP2 D.int D.int)) (e2 := D.int) (fun x43 => [some (D.int prime0), some ((eL (eP2 D.int D.int)) pairs0), some ((eL D.int) places_8), some ((eL D.int) s13), some (D.int x14.1), some (D.int x14.2), none, some (D.int share_38), none, some ((eL D.int) s21.1), some (D.int s21.2), some (D.int x43.1), some (D.int x43.2)]) (h := (fun x43 : (Int × Int) => ((((some x43.1).bind fun a44 => ((mulO share_38 x43.2).bind fun a45 => (some (a44 + a45)))).bind fun a46 => (some a46)).bind fun a47 => ((some prime0).bind fun a48 => (modO a47 a48))))) (th (r := ((some s13).bind fun a41 => (((some s21.1).bind fun a39 => ((repO ([(0 : Int)] : (List Int)) (((s13.length : Nat) : Int) - ((s21.1.length : Nat) : Int))).bind fun a40 => (catO a39 a40))).bind fun a42 => (zipO a41 a42)))) (ts_zipL (t_var (e := (eL D.int)) (a := s13) 3 rfl) (tx (r := ((some s21.1).bind fun a39 => ((repO ([(0 : Int)] : (List Int)) (((s13.length : Nat) : Int) - ((s21.1.length : Nat) : Int))).bind fun a40 => (catO a39 a40)))) (t_2 o_addL (t_var (e := (eL D.int)) (a := s21.1) 9 rfl) (tx (r := (repO ([(0 : Int)] : (List Int)) (((s13.length : Nat) : Int) - ((s21.1.length : Nat) : Int)))) (t_2p o_repL (t_lstHp (th_consp (t_c (e := D.int) (a := 0)) (th_nil (e := D.int)))) (tx (r := (some (((s13.length : Nat) : Int) - ((s21.1.length : Nat) : Int)))) (t_2p o_sub (tx (r := (some ((s13.length : Nat) : Int))) (t_call1p o_lenL (t_var (e := (eL D.int)) (a := s13) 3 rfl)) rfl) (tx (r := (some ((s21.1.length : Nat) : Int))) (t_call1p o_lenL (t_var (e := (eL D.int)) (a := s21.1) 9 rfl)) rfl)) rfl)) rfl)) rfl)) rfl) (fun _ => rfl) (fun x43 => (tx (r := ((((some x43.1).bind fun a44 => ((mulO share_38 x43.2).bind fun a45 => (some (a44 + a45)))).bind fun a46 => (some a46)).bind fun a47 => ((some prime0).bind fun a48 => (modO a47 a48)))) (t_2 o_mod (tx (r := (((some x43.1).bind fun a44 => ((mulO share_38 x43.2).bind fun a45 => (some (a44 + a45)))).bind fun a46 => (some a46))) (t_call1 o_toInt (tx (r := ((some x43.1).bind fun a44 => ((mulO share_38 x43.2).bind fun a45 => (some (a44 + a45))))) (t_2 o_add (t_var (e := D.int) (a := x43.1) 11 rfl) (tx (r := (mulO share_38 x43.2)) (t_2p o_mul (t_var (e := D.int) (a := share_38) 7 rfl) (t_var (e := D.int) (a := x43.2) 12 rfl)) rfl)) rfl)) rfl) (t_var (e := D.int) (a := prime0) 0 rfl)) rfl))) (fun _ => rfl)) (fun found_49 => (a_wipe (ws := [4, 5, 6, 7, 9, 10]) (E := (fun s15 : (List Int) => [some (D.int prime0), some ((eL (eP2 D.int D.int)) pairs0), some ((eL D.int) places_8), some ((eL D.int) s15), none, none, none, none, none, none, none, none, none])) found_49 rfl))))))))))) (fun s15 => (r_ret (tx (r := (some s15)) (t_call1p o_tupL (t_var (e := (eL D.int)) (a := s15) 3 rfl)) rfl))))))))))))))
-- near : I, TI, I, I -> LTI
@[irreducible] def T_near (prime0 : Int) (word0 : (List Int)) (many0 : Int) (wrong0 : Int) : Option (List (List Int)) :=
  ((T_check_word prime0 word0 many0).bind fun _ => (((((T_is_within wrong0 (0 : Int) ((((word0.length : Nat) : Int) - many0) - (1 : Int))).map not).bind fun a2 => if a2 then none else (some ())) : Option Unit).bind fun _ => ((some ([] : (List (List Int × Bool)))).bind fun found_3 => ((((T_lots ((word0.length : Nat) : Int) (many0 + (1 : Int))).bind fun a4 => (szO a4)).bind fun as => foldO (fun (s5 : (List (List Int × Bool))) (x6 : (List Int)) => (((some prime0).bind fun a11 => (((szO x6).bind fun as => mapO (fun x8 : Int => ((some (x8 + (1 : Int))).bind fun a9 => ((atI word0 x8).bind fun a10 => (some (a9, a10))))) as).bind fun a12 => (T_through a11 a12))).bind fun items_13 => ((((((T_unlike_places prime0 word0 items_13).bind fun a14 => (some ((a14.length : Nat) : Int))).bind fun a15 => ((some wrong0).bind fun a16 => (some (decide (a15 ≤ a16))))).bind fun a24 => if a24 then (((some true).bind fun a22 => ((some items_13).bind fun a23 => (putO s5 a23 a22))).bind fun found_21 => (some found_21)) else (some s5)) : Option (List (List Int × Bool))).bind fun s17 => (some s17)))) found_3 as).bind fun s7 => (sortTO (s7.map fun p => p.1))))))
theorem ok_T_near (prime0 : Int) (word0 : (List Int)) (many0 : Int) (wrong0 : Int) : F_near [D.int prime0, (eT D.int) word0, D.int many0, D.int wrong0] = (T_near prime0 word0 many0 wrong0).map (eL (eT D.int)) := by
  unfold T_near
  exact fn_r (er := (eL (eT D.int))) rfl (q_ar (a_drop (tx (r := (T_check_word prime0 word0 many0)) (t_call3p ok_T_check_word (t_var (e := D.int) (a := prime0) 0 rfl) (t_var (e := (eT D.int)) (a := word0) 1 rfl) (t_var (e := D.int) (a := many0) 2 rfl)) rfl)) (fun _ => (q_ar (i_a (E := (fun _ : Unit => [some (D.int prime0), some ((eT D.int) word0), some (D.int many0), some (D.int wrong0), none, none, none, none])) (tb_not (tb_x (tx (r := (T_is_within wrong0 (0 : Int) ((((word0.length : Nat) : Int) - many0) - (1 : Int)))) (t_call3p ok_T_is_within (t_var (e := D.int) (a := wrong0) 3 rfl) (t_c (e := D.int) (a := 0)) (tx (r := (some ((((word0.length : Nat) : Int) - many0) - (1 : Int)))) (t_2p o_sub (tx (r := (some (((word0.length : Nat) : Int) - many0))) (t_2p o_sub (tx (r := (some ((word0.length : Nat) : Int))) (t_call1p o_lenT (t_var (e := (eT D.int)) (a := word0) 1 rfl)) rfl) (t_var (e := D.int) (a := many0) 2 rfl)) rfl) (t_c (e := D.int) (a := 1))) rfl)) rfl))) a_never (a_skip (E := (fun _ : Unit => [some (D.int prime0), some ((eT D.int) word0), some (D.int many0), some (D.int wrong0), none, none, none, none])) () rfl)) (fun _ => (q_ar (a_new (t_c (e := (eDT D.bl)) (a := [])) rfl) (fun found_3 => (q_ar (f_a (e := (eT D.int)) (E := (fun s7 : (List (List Int × Bool)) => [some (D.int prime0), some ((eT D.int) word0), some (D.int many0), some (D.int wrong0), some ((eDT D.bl) s7), none, none, none])) (s0 := found_3) (fun (s5 : (List (List Int × Bool))) (x6 : (List Int)) => [some (D.int prime0), some ((eT D.int) word0), some (D.int many0), some (D.int wrong0), some ((eDT D.bl) s5), some ((eT D.int) x6), none, none]) (step := (fun (s5 : (List (List Int × Bool))) (x6 : (List Int)) => (((some prime0).bind fun a11 => (((szO x6).bind fun as => mapO (fun x8 : Int => ((some (x8 + (1 : Int))).bind fun a9 => ((atI word0 x8).bind fun a10 => (some (a9, a10))))) as).bind fun a12 => (T_through a11 a12))).bind fun items_13 => ((((((T_unlike_places prime0 word0 items_13).bind fun a14 => (some ((a14.length : Nat) : Int))).bind fun a15 => ((some wrong0).bind fun a16 => (some (decide (a15 ≤ a16))))).bind fun a24 => if a24 then (((some true).bind fun a22 => ((some items_13).bind fun a23 => (putO s5 a23 a22))).bind fun found_21 => (some found_21)) else (some s5)) : Option (List (List Int × Bool))).bind fun s17 => (some s17))))) (th (r := ((T_lots ((word0.length : Nat) : Int) (many0 + (1 : Int))).bind fun a4 => (szO a4))) (ts_lst (tx (r := (T_lots ((word0.length : Nat) : Int) (many0 + (1 : Int)))) (t_call2p ok_T_lots (tx (r := (some ((word0.length : Nat) : Int))) (t_call1p o_lenT (t_var (e := (eT D.int)) (a := word0) 1 rfl)) rfl) (tx (r := (some (many0 + (1 : Int)))) (t_2p o_add (t_var (e := D.int) (a := many0) 2 rfl) (t_c (e := D.int) (a := 1))) rfl)) rfl)) rfl) rfl (fun _ => rfl) (fun _ _ => rfl) (fun s5 x6 => (q_aa (a_asg (E := (fun items_13 => [some (D.int prime0), some ((eT D.int) word0), some (D.int many0), some (D.int wrong0), some ((eDT D.bl) s5), some ((eT D.int) x6), some ((eT D.int) items_13), none])) (tx (r := ((some prime0).bind fun a11 => (((szO x6).bind fun as => mapO (fun x8 : Int => ((some (x8 + (1 : Int))).bind fun a9 => ((atI word0 x8).bind fun a10 => (some (a9, a10))))) as).bind fun a12 => (T_through a11 a12)))) (t_call2 ok_T_through (t_var (e := D.int) (a := prime0) 0 rfl) (t_compA (e1 := D.int) (e2 := (eP2 D.int D.int)) (fun x8 => [some (D.int prime0), some ((eT D.int) word0), some (D.int many0), some (D.int wrong0), some ((eDT D.bl) s5), some ((eT D.int) x6), none, some (D.int x8)]) (h := (fun x8 : Int => ((some (x8 + (1 : Int))).bind fun a9 => ((atI word0 x8).bind fun a10 => (some (a9, a10)))))) (th (r := (szO x6)) (ts_tupp (t_var (e := (eT D.int)) (a := x6) 5 rfl)) rfl) (fun _ => rfl) (fun x8 => (tx (r := ((some (x8 + (1 : Int))).bind fun a9 => ((atI word0 x8).bind fun a10 => (some (a9, a10))))) (t_p2 (tx (r := (some (x8 + (1 : Int)))) (t_2p o_add (t_var (e := D.int) (a := x8) 7 rfl) (t_c (e := D.int) (a := 1))) rfl) (tx (r := (atI word0 x8)) (t_2p o_ixT (t_var (e := (eT D.int)) (a := word0) 1 rfl) (t_var (e := D.int) (a := x8) 7 rfl)) rfl)) rfl)))) rfl) (fun _ => rfl)) (fun items_13 => (q_aa (i_a (E := (fun s17 : (List (List Int × Bool)) => [some (D.int prime0), some ((eT D.int) word0), some (D.int many0), some (D.int wrong0), some ((eDT D.bl) s17), some ((eT D.int) x6), some ((eT D.int) items_13), none])) (tb_x (tx (r := (((T_unlike_places prime0 word0 items_13).bind fun a14 => (some ((a14.length : Nat) : Int))).bind fun a15 => ((some wrong0).bind fun a16 => (some (decide (a15 ≤ a16)))))) (t_2 o_le (tx (r := ((T_unlike_places prime0 word0 items_13).bind fun a14 => (some ((a14.length : Nat) : Int)))) (t_call1 o_lenT (tx (r := (T_unlike_places prime0 word0 items_13)) (t_call3p ok_T_unlike_places (t_var (e := D.int) (a := prime0) 0 rfl) (t_var (e := (eT D.int)) (a := word0) 1 rfl) (t_var (e := (eT D.int)) (a := items_13) 6 rfl)) rfl)) rfl) (t_var (e := D.int) (a := wrong0) 3 rfl)) rfl)) (q_aa (a_dputT (i := 4) (kvs := s5) (t_c (e := D.bl) (a := true)) (t_var (e := (eT D.int)) (a := items_13) 6 rfl) rfl) (fun found_21 => (a_skip (E := (fun s17 : (List (List Int × Bool)) => [some (D.int prime0), some ((eT D.int) word0), some (D.int many0), some (D.int wrong0), some ((eDT D.bl) s17), some ((eT D.int) x6), some ((eT D.int) items_13), none])) found_21 rfl))) (a_skip (E := (fun s17 : (List (List Int × Bool)) => [some (D.int prime0), some ((eT D.int) word0), some (D.int many0), some (D.int wrong0), some ((eDT D.bl) s17), some ((eT D.int) x6), some ((eT D.int) items_13), none])) s5 rfl)) (fun s17 => (a_wipe (ws := [5, 6]) (E := (fun s7 : (List (List Int × Bool)) => [some (D.int prime0), some ((eT D.int) word0), some (D.int many0), some (D.int wrong0), some ((eDT D.bl) s7), none, none, none])) s17 rfl))))))) (fun s7 => (r_ret (tx (r := (sortTO (s7.map fun p => p.1))) (t_call1p o_sortedDT (t_var (e := (eDT D.bl)) (a := s7) 4 rfl)) rfl))))))))))
-- common_wrong : I, TI, LTI -> TI
@[irreducible] def T_common_wrong (prime0 : Int) (word0 : (List Int)) (some0 : (List (List Int))) : Option (List Int) :=
  (((szO some0).bind fun as => mapO (fun x1 : (List Int) => (T_unlike_places prime0 word0 x1)) as).bind fun rows_2 => ((((atI rows_2 (0 : Int)).bind fun a3 => (szO a3)).bind fun as => fmO (fun x4 : Int => (((szO rows_2).map fun as => as.map (fun x5 : (List Int) => (x5.any fun y6 => decide (y6 = x4)))).bind fun a7 => (some (a7.all id)))) (fun x4 : Int => (some x4)) as).bind fun a8 => (some a8)))
theorem ok_T_common_wrong (prime0 : Int) (word0 : (List Int)) (some0 : (List (List Int))) : F_common_wrong [D.int prime0, (eT D.int) word0, (eL (eT D.int)) some0] = (T_common_wrong prime0 word0 some0).map (eT D.int) := by
  unfold T_common_wrong
  exact fn_r (er := (eT D.int)) rfl (q_ar (a_asg (E := (fun rows_2 => [some (D.int prime0), some ((eT D.int) word0), some ((eL (eT D.int)) some0), some ((eL (eT D.int)) rows_2), none, none, none])) (t_compA (e1 := (eT D.int)) (e2 := (eT D.int)) (fun x1 => [some (D.int prime0), some ((eT D.int) word0), some ((eL (eT D.int)) some0), none, some ((eT D.int) x1), none, none]) (h := (fun x1 : (List Int) => (T_unlike_places prime0 word0 x1))) (th (r := (szO some0)) (ts_lstp (t_var (e := (eL (eT D.int))) (a := some0) 2 rfl)) rfl) (fun _ => rfl) (fun x1 => (tx (r := (T_unlike_places prime0 word0 x1)) (t_call3p ok_T_unlike_places (t_var (e := D.int) (a := prime0) 0 rfl) (t_var (e := (eT D.int)) (a := word0) 1 rfl) (t_var (e := (eT D.int)) (a := x1) 4 rfl)) rfl))) (fun _ => rfl)) (fun rows_2 => (r_ret (tx (r := ((((atI rows_2 (0 : Int)).bind fun a3 => (szO a3)).bind fun as => fmO (fun x4 : Int => (((szO rows_2).map fun as => as.map (fun x5 : (List Int) => (x5.any fun y6 => decide (y6 = x4)))).bind fun a7 => (some (a7.all id)))) (fun x4 : Int => (some x4)) as).bind fun a8 => (some a8))) (t_call1 o_tupL (t_comp (e1 := D.int) (e2 := D.int) (fun x4 => [some (D.int prime0), some ((eT D.int) word0), some ((eL (eT D.int)) some0), some ((eL (eT D.int)) rows_2), none, some (D.int x4), none]) (p := (fun x4 : Int => (((szO rows_2).map fun as => as.map (fun x5 : (List Int) => (x5.any fun y6 => decide (y6 = x4)))).bind fun a7 => (some (a7.all id))))) (h := (fun x4 : Int => (some x4))) (th (r := ((atI rows_2 (0 : Int)).bind fun a3 => (szO a3))) (ts_tup (tx (r := (atI rows_2 (0 : Int))) (t_2p o_ixL (t_var (e := (eL (eT D.int))) (a := rows_2) 3 rfl) (t_c (e := D.int) (a := 0))) rfl)) rfl) (fun _ => rfl) (fun x4 => (tb_x (tx (r := (((szO rows_2).map fun as => as.map (fun x5 : (List Int) => (x5.any fun y6 => decide (y6 = x4)))).bind fun a7 => (some (a7.all id)))) (t_call1 o_all (t_compP (e1 := (eT D.int)) (e2 := D.bl) (fun x5 => [some (D.int prime0), some ((eT D.int) word0), some ((eL (eT D.int)) some0), some ((eL (eT D.int)) rows_2), none, some (D.int x4), some ((eT D.int) x5)]) (h := (fun x5 : (List Int) => (x5.any fun y6 => decide (y6 = x4)))) (th (r := (szO rows_2)) (ts_lstp (t_var (e := (eL (eT D.int))) (a := rows_2) 3 rfl)) rfl) (fun _ => rfl) (fun x5 => (tx (r := (some (x5.any fun y6 => decide (y6 = x4)))) (t_2p o_inT (t_var (e := D.int) (a := x4) 5 rfl) (t_var (e := (eT D.int)) (a := x5) 6 rfl)) rfl)))) rfl))) (fun x4 => (t_var (e := D.int) (a := x4) 5 rfl)))) rfl))))
-- story : I, TI, I, I -> D
@[irreducible] def T_story (prime0 : Int) (word0 : (List Int)) (many0 : Int) (wrong0 : Int) : Option PL.D :=
  ((T_near prime0 word0 many0 wrong0).bind fun some_1 => (orR ((if (decide (some_1 = ([] : (List (List Int))))) then ((some ((eP1 D.str) ("none" : Str))).map .inl) else ((some ()).map .inr)) : Option (PL.D ⊕ Unit)) fun _ => (orR ((szO (cutA some_1 (some (1 : Int)) none)).bind fun as => foldR (fun (s3 : Unit) (x4 : (List Int)) => ((orM ((((atI x4 (0 : Int)).bind fun a8 => (((atI some_1 (0 : Int)).bind fun a6 => ((some (0 : Int)).bind fun a7 => (atI a6 a7))).bind fun a9 => (some (!decide (a8 = a9))))).bind fun a14 => if a14 then ((((some ("two" : Str)).bind fun a11 => ((atI some_1 (0 : Int)).bind fun a12 => ((some x4).bind fun a13 => (some (a11, a12, a13))))).map (eP3 D.str (eT D.int) (eT D.int))).map .inl) else ((some ()).map .inr)) : Option (PL.D ⊕ Unit)) fun _ => ((some ()).map .inr)) : Option (PL.D ⊕ Unit))) () as) fun s5 => (((some ("one" : Str)).bind fun a17 => (((atI some_1 (0 : Int)).bind fun a15 => ((some (0 : Int)).bind fun a16 => (atI a15 a16))).bind fun a18 => ((T_common_wrong prime0 word0 some_1).bind fun a19 => (some (a17, a18, a19))))).map (eP3 D.str D.int (eT D.int))))))
theorem ok_T_story (prime0 : Int) (word0 : (List Int)) (many0 : Int) (wrong0 : Int) : F_story [D.int prime0, (eT D.int) word0, D.int many0, D.int wrong0] = (T_story prime0 word0 many0 wrong0).map eR := by
  unfold T_story
  exact fn_r (er := eR) rfl (q_ar (a_asg (E := (fun some_1 => [some (D.int prime0), some ((eT D.int) word0), some (D.int many0), some (D.int wrong0), some ((eL (eT D.int)) some_1), none])) (tx (r := (T_near prime0 word0 many0 wrong0)) (t_call4p ok_T_near (t_var (e := D.int) (a := prime0) 0 rfl) (t_var (e := (eT D.int)) (a := word0) 1 rfl) (t_var (e := D.int) (a := many0) 2 rfl) (t_var (e := D.int) (a := wrong0) 3 rfl)) rfl) (fun _ => rfl)) (fun some_1 => (q_mr (i_mp (er := eR) (E := (fun _ : Unit => [some (D.int prime0), some ((eT D.int) word0), some (D.int many0), some (D.int wrong0), some ((eL (eT D.int)) some_1), none])) (tb_x (tx (r := (some (decide (some_1 = ([] : (List (List Int))))))) (t_2p (o_eq (eq_L (eq_T eq_int)) (by decide)) (t_var (e := (eL (eT D.int))) (a := some_1) 4 rfl) (t_lstHp (th_nil (e := (eT D.int))))) rfl)) (r_m (r_ret (t_rawp (t_p1p (t_c (e := D.str) (a := ("none" : Str))))))) (a_m (a_skip (E := (fun _ : Unit => [some (D.int prime0), some ((eT D.int) word0), some (D.int many0), some (D.int wrong0), some ((eL (eT D.int)) some_1), none])) () rfl))) (fun _ => (q_mr (f_m (er := eR) (e := (eT D.int)) (E := (fun s5 : Unit => [some (D.int prime0), some ((eT D.int) word0), some (D.int many0), some (D.int wrong0), some ((eL (eT D.int)) some_1), none])) (s0 := ()) (fun (s3 : Unit) (x4 : (List Int)) => [some (D.int prime0), some ((eT D.int) word0), some (D.int many0), some (D.int wrong0), some ((eL (eT D.int)) some_1), some ((eT D.int) x4)]) (step := (fun (s3 : Unit) (x4 : (List Int)) => ((orM ((((atI x4 (0 : Int)).bind fun a8 => (((atI some_1 (0 : Int)).bind fun a6 => ((some (0 : Int)).bind fun a7 => (atI a6 a7))).bind fun a9 => (some (!decide (a8 = a9))))).bind fun a14 => if a14 then ((((some ("two" : Str)).bind fun a11 => ((atI some_1 (0 : Int)).bind fun a12 => ((some x4).bind fun a13 => (some (a11, a12, a13))))).map (eP3 D.str (eT D.int) (eT D.int))).map .inl) else ((some ()).map .inr)) : Option (PL.D ⊕ Unit)) fun _ => ((some ()).map .inr)) : Option (PL.D ⊕ Unit)))) (th (r := (szO (cutA some_1 (some (1 : Int)) none))) (ts_lstp (tx (r := (some (cutA some_1 (some (1 : Int)) none))) (t_slLp (t_var (e := (eL (eT D.int))) (a := some_1) 4 rfl) (to_somep (t_c (e := D.int) (a := 1))) to_none) rfl)) rfl) rfl (fun _ => rfl) (fun _ _ => rfl) (fun s3 x4 => (q_ma (i_m (er := eR) (E := (fun _ : Unit => [some (D.int prime0), some ((eT D.int) word0), some (D.int many0), some (D.int wrong0), some ((eL (eT D.int)) some_1), some ((eT D.int) x4)])) (tb_x (tx (r := ((atI x4 (0 : Int)).bind fun a8 => (((atI some_1 (0 : Int)).bind fun a6 => ((some (0 : Int)).bind fun a7 => (atI a6 a7))).bind fun a9 => (some (!decide (a8 = a9)))))) (t_2 (o_ne eq_int (by decide)) (tx (r := (atI x4 (0 : Int))) (t_2p o_ixT (t_var (e := (eT D.int)) (a := x4) 5 rfl) (t_c (e := D.int) (a := 0))) rfl) (tx (r := ((atI some_1 (0 : Int)).bind fun a6 => ((some (0 : Int)).bind fun a7 => (atI a6 a7)))) (t_2 o_ixT (tx (r := (atI some_1 (0 : Int))) (t_2p o_ixL (t_var (e := (eL (eT D.int))) (a := some_1) 4 rfl) (t_c (e := D.int) (a := 0))) rfl) (t_c (e := D.int) (a := 0))) rfl)) rfl)) (r_m (r_ret (t_raw (tx (r := ((some ("two" : Str)).bind fun a11 => ((atI some_1 (0 : Int)).bind fun a12 => ((some x4).bind fun a13 => (some (a11, a12, a13)))))) (t_p3 (t_c (e := D.str) (a := ("two" : Str))) (tx (r := (atI some_1 (0 : Int))) (t_2p o_ixL (t_var (e := (eL (eT D.int))) (a := some_1) 4 rfl) (t_c (e := D.int) (a := 0))) rfl) (t_var (e := (eT D.int)) (a := x4) 5 rfl)) rfl)))) (a_m (a_skip (E := (fun _ : Unit => [some (D.int prime0), some ((eT D.int) word0), some (D.int many0), some (D.int wrong0), some ((eL (eT D.int)) some_1), some ((eT D.int) x4)])) () rfl))) (fun _ => (a_wipe (ws := [5]) (E := (fun s5 : Unit => [some (D.int prime0), some ((eT D.int) word0), some (D.int many0), some (D.int wrong0), some ((eL (eT D.int)) some_1), none])) () rfl))))) (fun s5 => (r_ret (t_raw (tx (r := ((some ("one" : Str)).bind fun a17 => (((atI some_1 (0 : Int)).bind fun a15 => ((some (0 : Int)).bind fun a16 => (atI a15 a16))).bind fun a18 => ((T_common_wrong prime0 word0 some_1).bind fun a19 => (some (a17, a18, a19)))))) (t_p3 (t_c (e := D.str) (a := ("one" : Str))) (tx (r := ((atI some_1 (0 : Int)).bind fun a15 => ((some (0 : Int)).bind fun a16 => (atI a15 a16)))) (t_2 o_ixT (tx (r := (atI some_1 (0 : Int))) (t_2p o_ixL (t_var (e := (eL (eT D.int))) (a := some_1) 4 rfl) (t_c (e := D.int) (a := 0))) rfl) (t_c (e := D.int) (a := 0))) rfl) (tx (r := (T_common_wrong prime0 word0 some_1)) (t_call3p ok_T_common_wrong (t_var (e := D.int) (a := prime0) 0 rfl) (t_var (e := (eT D.int)) (a := word0) 1 rfl) (t_var (e := (eL (eT D.int))) (a := some_1) 4 rfl)) rfl)) rfl)))))))))
-- _law_about : I, I, I -> I
@[irreducible] def T__law_about (prime0 : Int) (length0 : Int) (wrong0 : Int) : Option Int :=
  (((rangeO1 (wrong0 + (1 : Int))).bind fun as => mapO (fun x1 : Int => ((T__law_choose length0 x1).bind fun a2 => ((T__law_power (prime0 - (1 : Int)) x1).bind fun a3 => (mulO a2 a3)))) as).bind fun a4 => (some a4.sum))
theorem ok_T__law_about (prime0 : Int) (length0 : Int) (wrong0 : Int) : F__law_about [D.int prime0, D.int length0, D.int wrong0] = (T__law_about prime0 length0 wrong0).map D.int := by
  unfold T__law_about
  exact fn_r (er := D.int) rfl (r_ret (tx (r := (((rangeO1 (wrong0 + (1 : Int))).bind fun as => mapO (fun x1 : Int => ((T__law_choose length0 x1).bind fun a2 => ((T__law_power (prime0 - (1 : Int)) x1).bind fun a3 => (mulO a2 a3)))) as).bind fun a4 => (some a4.sum))) (t_call1 o_sum (t_compA (e1 := D.int) (e2 := D.int) (fun x1 => [some (D.int prime0), some (D.int length0), some (D.int wrong0), some (D.int x1)]) (h := (fun x1 : Int => ((T__law_choose length0 x1).bind fun a2 => ((T__law_power (prime0 - (1 : Int)) x1).bind fun a3 => (mulO a2 a3))))) (th (r := (rangeO1 (wrong0 + (1 : Int)))) (ts_range1p (tx (r := (some (wrong0 + (1 : Int)))) (t_2p o_add (t_var (e := D.int) (a := wrong0) 2 rfl) (t_c (e := D.int) (a := 1))) rfl)) rfl) (fun _ => rfl) (fun x1 => (tx (r := ((T__law_choose length0 x1).bind fun a2 => ((T__law_power (prime0 - (1 : Int)) x1).bind fun a3 => (mulO a2 a3)))) (t_2 o_mul (tx (r := (T__law_choose length0 x1)) (t_call2p ok_T__law_choose (t_var (e := D.int) (a := length0) 1 rfl) (t_var (e := D.int) (a := x1) 3 rfl)) rfl) (tx (r := (T__law_power (prime0 - (1 : Int)) x1)) (t_call2p ok_T__law_power (tx (r := (some (prime0 - (1 : Int)))) (t_2p o_sub (t_var (e := D.int) (a := prime0) 0 rfl) (t_c (e := D.int) (a := 1))) rfl) (t_var (e := D.int) (a := x1) 3 rfl)) rfl)) rfl)))) rfl))
-- _law_are_near_right : I, I, I, I -> B
@[irreducible] def T__law_are_near_right (prime0 : Int) (length0 : Int) (many0 : Int) (wrong0 : Int) : Option Bool :=
  (((some (0 : Int)).bind fun a2 => ((some (0 : Int)).bind fun a3 => ((T__law_power prime0 (many0 + (1 : Int))).bind fun a4 => (some (a2, a3, a4))))).bind fun p1 => (((T__law_about prime0 length0 wrong0).bind fun a8 => (((mulO (2 : Int) wrong0).bind fun a5 => ((some (length0 - many0)).bind fun a6 => (some (decide (a5 < a6))))).bind fun a9 => (some (a8, a9)))).bind fun p7 => (orR (((T_all_rows prime0 length0).bind fun a10 => (szO a10)).bind fun as => foldR (fun (s11 : (Int × Int)) (x12 : (List Int)) => (((T_near prime0 x12 many0 wrong0).bind fun found_14 => ((some (s11.1 + ((found_14.length : Nat) : Int))).bind fun total_15 => (orM (((if p7.2 then (some (decide ((1 : Int) < ((found_14.length : Nat) : Int)))) else some false).bind fun a17 => if a17 then ((some false).map .inl) else ((some ()).map .inr)) : Option (Bool ⊕ Unit)) fun _ => ((T_story prime0 x12 many0 wrong0).bind fun thing_18 => (orM ((((((ixD thing_18 (D.int (0 : Int))).bind fun a19 => ((some (D.str ("none" : Str))).bind fun a20 => (eqB a19 a20))).bind fun a21 => ((some (decide (((found_14.length : Nat) : Int) = (0 : Int)))).bind fun a22 => (some (!decide (a21 = a22))))).bind fun a34 => (if a34 then some true else (((ixD thing_18 (D.int (0 : Int))).bind fun a23 => ((some (D.str ("two" : Str))).bind fun a24 => (eqB a23 a24))).bind fun a32 => ((((((szO found_14).bind fun as => mapO (fun x25 : (List Int) => ((atI x25 (0 : Int)).bind fun a26 => ((some true).bind fun a27 => (some (a26, a27))))) as).bind fun a28 => (some (mergeA [] a28))).bind fun a29 => (some ((a29.length : Nat) : Int))).bind fun a30 => ((some (1 : Int)).bind fun a31 => (some (decide (a31 < a30))))).bind fun a33 => (some (!decide (a32 = a33))))))).bind fun a36 => if a36 then ((some false).map .inl) else ((some ()).map .inr)) : Option (Bool ⊕ Unit)) fun _ => (((some s11.2).bind fun a40 => ((((ixD thing_18 (D.int (0 : Int))).bind fun a37 => ((some (D.str ("one" : Str))).bind fun a38 => (eqB a37 a38))).bind fun a39 => (some (if a39 then 1 else 0 : Int))).bind fun a41 => (some (a40 + a41)))).bind fun single_42 => (orM (((((ixD thing_18 (D.int (0 : Int))).bind fun a43 => ((some (D.str ("one" : Str))).bind fun a44 => (eqB a43 a44))).bind fun a49 => (if a49 then ((ixD thing_18 (D.int (1 : Int))).bind fun a47 => ((((atI found_14 (0 : Int)).bind fun a45 => ((some (0 : Int)).bind fun a46 => (atI a45 a46))).map D.int).bind fun a48 => ((eqB a47 a48).map not))) else some false)).bind fun a51 => if a51 then ((some false).map .inl) else ((some ()).map .inr)) : Option (Bool ⊕ Unit)) fun _ => ((some (total_15, single_42)).map .inr)))))))) : Option (Bool ⊕ (Int × Int)))) (p1.1, p1.2.1) as) fun s13 => (((some s13.1).bind fun a52 => ((mulO p1.2.2 p7.1).bind fun a53 => (some (decide (a52 = a53))))).bind fun a54 => (if a54 then (if (decide (s13.2 = s13.1)) then some true else (some (!p7.2))) else some false)))))
theorem ok_T__law_are_near_right (prime0 : Int) (length0 : Int) (many0 : Int) (wrong0 : Int) : F__law_are_near_right [D.int prime0, D.int length0, D.int many0, D.int wrong0] = (T__law_are_near_right prime0 length0 many0 wrong0).map D.bl := by
  unfold T__law_are_near_right
  exact fn_r (er := D.bl) rfl (q_ar (ta (E' := fun p1 => [some (D.int prime0), some (D.int length0), some (D.int many0), some (D.int wrong0), none, some (D.int p1.1), some (D.int p1.2.1), some (D.int p1.2.2), none, none, none, none, none]) (a_par3 (t_c (e := D.int) (a := 0)) (t_c (e := D.int) (a := 0)) (tx (r := (T__law_power prime0 (many0 + (1 : Int)))) (t_call2p ok_T__law_power (t_var (e := D.int) (a := prime0) 0 rfl) (tx (r := (some (many0 + (1 : Int)))) (t_2p o_add (t_var (e := D.int) (a := many0) 2 rfl) (t_c (e := D.int) (a := 1))) rfl)) rfl)) rfl) (fun p1 => (q_ar (ta (E' := fun p7 => [some (D.int prime0), some (D.int length0), some (D.int many0), some (D.int wrong0), none, some (D.int p1.1), some (D.int p1.2.1), some (D.int p1.2.2), some (D.int p7.1), some (D.bl p7.2), none, none, none]) (a_par (tx (r := (T__law_about prime0 length0 wrong0)) (t_call3p ok_T__law_about (t_var (e := D.int) (a := prime0) 0 rfl) (t_var (e := D.int) (a := length0) 1 rfl) (t_var (e := D.int) (a := wrong0) 3 rfl)) rfl) (tx (r := ((mulO (2 : Int) wrong0).bind fun a5 => ((some (length0 - many0)).bind fun a6 => (some (decide (a5 < a6)))))) (t_2 o_lt (tx (r := (mulO (2 : Int) wrong0)) (t_2p o_mul (t_c (e := D.int) (a := 2)) (t_var (e := D.int) (a := wrong0) 3 rfl)) rfl) (tx (r := (some (length0 - many0))) (t_2p o_sub (t_var (e := D.int) (a := length0) 1 rfl) (t_var (e := D.int) (a := many0) 2 rfl)) rfl)) rfl)) rfl) (fun p7 => (q_mr (f_m (er := D.bl) (e := (eT D.int)) (E := (fun s13 : (Int × Int) => [some (D.int prime0), some (D.int length0), some (D.int many0), some (D.int wrong0), none, some (D.int s13.1), some (D.int s13.2), some (D.int p1.2.2), some (D.int p7.1), some (D.bl p7.2), none, none, none])) (s0 := (p1.1, p1.2.1)) (fun (s11 : (Int × Int)) (x12 : (List Int)) => [some (D.int prime0), some (D.int length0), some (D.int many0), some (D.int wrong0), some ((eT D.int) x12), some (D.int s11.1), some (D.int s11.2), some (D.int p1.2.2), some (D.int p7.1), some (D.bl p7.2), none, none, none]) (step := (fun (s11 : (Int × Int)) (x12 : (List Int)) => (((T_near prime0 x12 many0 wrong0).bind fun found_14 => ((some (s11.1 + ((found_14.length : Nat) : Int))).bind fun total_15 => (orM (((if p7.2 then (some (decide ((1 : Int) < ((found_14.length : Nat) : Int)))) else some false).bind fun a17 => if a17 then ((some false).map .inl) else ((some ()).map .inr)) : Option (Bool ⊕ Unit)) fun _ => ((T_story prime0 x12 many0 wrong0).bind fun thing_18 => (orM ((((((ixD thing_18 (D.int (0 : Int))).bind fun a19 => ((some (D.str ("none" : Str))).bind fun a20 => (eqB a19 a20))).bind fun a21 => ((some (decide (((found_14.length : Nat) : Int) = (0 : Int)))).bind fun a22 => (some (!decide (a21 = a22))))).bind fun a34 => (if a34 then some true else (((ixD thing_18 (D.int (0 : Int))).bind fun a23 => ((some (D.str ("two" : Str))).bind fun a24 => (eqB a23 a24))).bind fun a32 => ((((((szO found_14).bind fun as => mapO (fun x25 : (List Int) => ((atI x25 (0 : Int)).bind fun a26 => ((some true).bind fun a27 => (some (a26, a27))))) as).bind fun a28 => (some (mergeA [] a28))).bind fun a29 => (some ((a29.length : Nat) : Int))).bind fun a30 => ((some (1 : Int)).bind fun a31 => (some (decide (a31 < a30))))).bind fun a33 => (some (!decide (a32 = a33))))))).bind fun a36 => if a36 then ((some false).map .inl) else ((some ()).map .inr)) : Option (Bool ⊕ Unit)) fun _ => (((some s11.2).bind fun a40 => ((((ixD thing_18 (D.int (0 : Int))).bind fun a37 => ((some (D.str ("one" : Str))).bind fun a38 => (eqB a37 a38))).bind fun a39 => (some (if a39 then 1 else 0 : Int))).bind fun a41 => (some (a40 + a41)))).bind fun single_42 => (orM (((((ixD thing_18 (D.int (0 : Int))).bind fun a43 => ((some (D.str ("one" : Str))).bind fun a44 => (eqB a43 a44))).bind fun a49 => (if a49 then ((ixD thing_18 (D.int (1 : Int))).bind fun a47 => ((((atI found_14 (0 : Int)).bind fun a45 => ((some (0 : Int)).bind fun a46 => (atI a45 a46))).map D.int).bind fun a48 => ((eqB a47 a48).map not))) else some false)).bind fun a51 => if a51 then ((some false).map .inl) else ((some ()).map .inr)) : Option (Bool ⊕ Unit)) fun _ => ((some (total_15, single_42)).map .inr)))))))) : Option (Bool ⊕ (Int × Int))))) (th (r := ((T_all_rows prime0 length0).bind fun a10 => (szO a10))) (ts_lst (tx (r := (T_all_rows prime0 length0)) (t_call2p ok_T_all_rows (t_var (e := D.int) (a := prime0) 0 rfl) (t_var (e := D.int) (a := length0) 1 rfl)) rfl)) rfl) rfl (fun _ => rfl) (fun _ _ => rfl) (fun s11 x12 => (q_am (a_asg (E := (fun found_14 => [some (D.int prime0), some (D.int length0), some (D.int many0), some (D.int wrong0), some ((eT D.int) x12), some (D.int s11.1), some (D.int s11.2), some (D.int p1.2.2), some (D.int p7.1), some (D.bl p7.2), some ((eL (eT D.int)) found_14), none, none])) (tx (r := (T_near prime0 x12 many0 wrong0)) (t_call4p ok_T_near (t_var (e := D.int) (a := prime0) 0 rfl) (t_var (e := (eT D.int)) (a := x12) 4 rfl) (t_var (e := D.int) (a := many0) 2 rfl) (t_var (e := D.int) (a := wrong0) 3 rfl)) rfl) (fun _ => rfl)) (fun found_14 => (q_am (a_asg (E := (fun total_15 => [some (D.int prime0), some (D.int length0), some (D.int many0), some (D.int wrong0), some ((eT D.int) x12), some (D.int total_15), some (D.int s11.2), some (D.int p1.2.2), some (D.int p7.1), some (D.bl p7.2), some ((eL (eT D.int)) found_14), none, none])) (tx (r := (some (s11.1 + ((found_14.length : Nat) : Int)))) (t_2p o_add (t_var (e := D.int) (a := s11.1) 5 rfl) (tx (r := (some ((found_14.length : Nat) : Int))) (t_call1p o_lenL (t_var (e := (eL (eT D.int))) (a := found_14) 10 rfl)) rfl)) rfl) (fun _ => rfl)) (fun total_15 => (q_mm (i_m (er := D.bl) (E := (fun _ : Unit => [some (D.int prime0), some (D.int length0), some (D.int many0), some (D.int wrong0), some ((eT D.int) x12), some (D.int total_15), some (D.int s11.2), some (D.int p1.2.2), some (D.int p7.1), some (D.bl p7.2), some ((eL (eT D.int)) found_14), none, none])) (tb_andp (tb_x (t_var (e := D.bl) (a := p7.2) 9 rfl)) (tb_x (tx (r := (some (decide ((1 : Int) < ((found_14.length : Nat) : Int))))) (t_2p o_gt (tx (r := (some ((found_14.length : Nat) : Int))) (t_call1p o_lenL (t_var (e := (eL (eT D.int))) (a := found_14) 10 rfl)) rfl) (t_c (e := D.int) (a := 1))) rfl))) (r_m (r_ret (t_c (e := D.bl) (a := false)))) (a_m (a_skip (E := (fun _ : Unit => [some (D.int prime0), some (D.int length0), some (D.int many0), some (D.int wrong0), some ((eT D.int) x12), some (D.int total_15), some (D.int s11.2), some (D.int p1.2.2), some (D.int p7.1), some (D.bl p7.2), some ((eL (eT D.int)) found_14), none, none])) () rfl))) (fun _ => (q_am (a_asg (E := (fun thing_18 => [some (D.int prime0), some (D.int length0), some (D.int many0), some (D.int wrong0), some ((eT D.int) x12), some (D.int total_15), some (D.int s11.2), some (D.int p1.2.2), some (D.int p7.1), some (D.bl p7.2), some ((eL (eT D.int)) found_14), some (eR thing_18), none])) (tx (r := (T_story prime0 x12 many0 wrong0)) (t_call4p ok_T_story (t_var (e := D.int) (a := prime0) 0 rfl) (t_var (e := (eT D.int)) (a := x12) 4 rfl) (t_var (e := D.int) (a := many0) 2 rfl) (t_var (e := D.int) (a := wrong0) 3 rfl)) rfl) (fun _ => rfl)) (fun thing_18 => (q_mm (i_m (er := D.bl) (E := (fun _ : Unit => [some (D.int prime0), some (D.int length0), some (D.int many0), some (D.int wrong0), some ((eT D.int) x12), some (D.int total_15), some (D.int s11.2), some (D.int p1.2.2), some (D.int p7.1), some (D.bl p7.2), some ((eL (eT D.int)) found_14), some (eR thing_18), none])) (tb_or (tb_x (tx (r := (((ixD thing_18 (D.int (0 : Int))).bind fun a19 => ((some (D.str ("none" : Str))).bind fun a20 => (eqB a19 a20))).bind fun a21 => ((some (decide (((found_14.length : Nat) : Int) = (0 : Int)))).bind fun a22 => (some (!decide (a21 = a22)))))) (t_2 (o_ne eq_bl (by decide)) (tx (r := ((ixD thing_18 (D.int (0 : Int))).bind fun a19 => ((some (D.str ("none" : Str))).bind fun a20 => (eqB a19 a20)))) (t_2 (e1 := eR) (e2 := eR) o_eqR (tx (r := (ixD thing_18 (D.int (0 : Int)))) (t_2p (e1 := eR) (e2 := eR) (e3 := eR) (top := ixD) (fun a b => by cases ixD a b <;> rfl) (t_var (e := eR) (a := thing_18) 11 rfl) (t_rawp (t_c (e := D.int) (a := 0)))) rfl) (t_rawp (t_c (e := D.str) (a := ("none" : Str))))) rfl) (tx (r := (some (decide (((found_14.length : Nat) : Int) = (0 : Int))))) (t_2p (o_eq eq_int (by decide)) (tx (r := (some ((found_14.length : Nat) : Int))) (t_call1p o_lenL (t_var (e := (eL (eT D.int))) (a := found_14) 10 rfl)) rfl) (t_c (e := D.int) (a := 0))) rfl)) rfl)) (tb_x (tx (r := (((ixD thing_18 (D.int (0 : Int))).bind fun a23 => ((some (D.str ("two" : Str))).bind fun a24 => (eqB a23 a24))).bind fun a32 => ((((((szO found_14).bind fun as => mapO (fun x25 : (List Int) => ((atI x25 (0 : Int)).bind fun a26 => ((some true).bind fun a27 => (some (a26, a27))))) as).bind fun a28 => (some (mergeA [] a28))).bind fun a29 => (some ((a29.length : Nat) : Int))).bind fun a30 => ((some (1 : Int)).bind fun a31 => (some (decide (a31 < a30))))).bind fun a33 => (some (!decide (a32 = a33)))))) (t_2 (o_ne eq_bl (by decide)) (tx (r := ((ixD thing_18 (D.int (0 : Int))).bind fun a23 => ((some (D.str ("two" : Str))).bind fun a24 => (eqB a23 a24)))) (t_2 (e1 := eR) (e2 := eR) o_eqR (tx (r := (ixD thing_18 (D.int (0 : Int)))) (t_2p (e1 := eR) (e2 := eR) (e3 := eR) (top := ixD) (fun a b => by cases ixD a b <;> rfl) (t_var (e := eR) (a := thing_18) 11 rfl) (t_rawp (t_c (e := D.int) (a := 0)))) rfl) (t_rawp (t_c (e := D.str) (a := ("two" : Str))))) rfl) (tx (r := (((((szO found_14).bind fun as => mapO (fun x25 : (List Int) => ((atI x25 (0 : Int)).bind fun a26 => ((some true).bind fun a27 => (some (a26, a27))))) as).bind fun a28 => (some (mergeA [] a28))).bind fun a29 => (some ((a29.length : Nat) : Int))).bind fun a30 => ((some (1 : Int)).bind fun a31 => (some (decide (a31 < a30)))))) (t_2 o_gt (tx (r := ((((szO found_14).bind fun as => mapO (fun x25 : (List Int) => ((atI x25 (0 : Int)).bind fun a26 => ((some true).bind fun a27 => (some (a26, a27))))) as).bind fun a28 => (some (mergeA [] a28))).bind fun a29 => (some ((a29.length : Nat) : Int)))) (t_call1 o_lenDI (tx (r := (((szO found_14).bind fun as => mapO (fun x25 : (List Int) => ((atI x25 (0 : Int)).bind fun a26 => ((some true).bind fun a27 => (some (a26, a27))))) as).bind fun a28 => (some (mergeA [] a28)))) (t_call1 o_dict (t_compA (e1 := (eT D.int)) (e2 := (eP2 D.int D.bl)) (fun x25 => [some (D.int prime0), some (D.int length0), some (D.int many0), some (D.int wrong0), some ((eT D.int) x12), some (D.int total_15), some (D.int s11.2), some (D.int p1.2.2), some (D.int p7.1), some (D.bl p7.2), some ((eL (eT D.int)) found_14), some (eR thing_18), some ((eT D.int) x25)]) (h := (fun x25 : (List Int) => ((atI x25 (0 : Int)).bind fun a26 => ((some true).bind fun a27 => (some (a26, a27)))))) (th (r := (szO found_14)) (ts_lstp (t_var (e := (eL (eT D.int))) (a := found_14) 10 rfl)) rfl) (fun _ => rfl) (fun x25 => (tx (r := ((atI x25 (0 : Int)).bind fun a26 => ((some true).bind fun a27 => (some (a26, a27))))) (t_p2 (tx (r := (atI x25 (0 : Int))) (t_2p o_ixT (t_var (e := (eT D.int)) (a := x25) 12 rfl) (t_c (e := D.int) (a := 0))) rfl) (t_c (e := D.bl) (a := true))) rfl)))) rfl)) rfl) (t_c (e := D.int) (a := 1))) rfl)) rfl))) (r_m (r_ret (t_c (e := D.bl) (a := false)))) (a_m (a_skip (E := (fun _ : Unit => [some (D.int prime0), some (D.int length0), some (D.int many0), some (D.int wrong0), some ((eT D.int) x12), some (D.int total_15), some (D.int s11.2), some (D.int p1.2.2), some (D.int p7.1), some (D.bl p7.2), some ((eL (eT D.int)) found_14), some (eR thing_18), none])) () rfl))) (fun _ => (q_am (a_asg (E := (fun single_42 => [some (D.int prime0), some (D.int length0), some (D.int many0), some (D.int wrong0), some ((eT D.int) x12), some (D.int total_15), some (D.int single_42), some (D.int p1.2.2), some (D.int p7.1), some (D.bl p7.2), some ((eL (eT D.int)) found_14), some (eR thing_18), none])) (tx (r := ((some s11.2).bind fun a40 => ((((ixD thing_18 (D.int (0 : Int))).bind fun a37 => ((some (D.str ("one" : Str))).bind fun a38 => (eqB a37 a38))).bind fun a39 => (some (if a39 then 1 else 0 : Int))).bind fun a41 => (some (a40 + a41))))) (t_2 o_add (t_var (e := D.int) (a := s11.2) 6 rfl) (tx (r := (((ixD thing_18 (D.int (0 : Int))).bind fun a37 => ((some (D.str ("one" : Str))).bind fun a38 => (eqB a37 a38))).bind fun a39 => (some (if a39 then 1 else 0 : Int)))) (t_call1 o_toIntB (tx (r := ((ixD thing_18 (D.int (0 : Int))).bind fun a37 => ((some (D.str ("one" : Str))).bind fun a38 => (eqB a37 a38)))) (t_2 (e1 := eR) (e2 := eR) o_eqR (tx (r := (ixD thing_18 (D.int (0 : Int)))) (t_2p (e1 := eR) (e2 := eR) (e3 := eR) (top := ixD) (fun a b => by cases ixD a b <;> rfl) (t_var (e := eR) (a := thing_18) 11 rfl) (t_rawp (t_c (e := D.int) (a := 0)))) rfl) (t_rawp (t_c (e := D.str) (a := ("one" : Str))))) rfl)) rfl)) rfl) (fun _ => rfl)) (fun single_42 => (q_ma (i_m (er := D.bl) (E := (fun _ : Unit => [some (D.int prime0), some (D.int length0), some (D.int many0), some (D.int wrong0), some ((eT D.int) x12), some (D.int total_15), some (D.int single_42), some (D.int p1.2.2), some (D.int p7.1), some (D.bl p7.2), some ((eL (eT D.int)) found_14), some (eR thing_18), none])) (tb_and (tb_x (tx (r := ((ixD thing_18 (D.int (0 : Int))).bind fun a43 => ((some (D.str ("one" : Str))).bind fun a44 => (eqB a43 a44)))) (t_2 (e1 := eR) (e2 := eR) o_eqR (tx (r := (ixD thing_18 (D.int (0 : Int)))) (t_2p (e1 := eR) (e2 := eR) (e3 := eR) (top := ixD) (fun a b => by cases ixD a b <;> rfl) (t_var (e := eR) (a := thing_18) 11 rfl) (t_rawp (t_c (e := D.int) (a := 0)))) rfl) (t_rawp (t_c (e := D.str) (a := ("one" : Str))))) rfl)) (tb_x (tx (r := ((ixD thing_18 (D.int (1 : Int))).bind fun a47 => ((((atI found_14 (0 : Int)).bind fun a45 => ((some (0 : Int)).bind fun a46 => (atI a45 a46))).map D.int).bind fun a48 => ((eqB a47 a48).map not)))) (t_2 (e1 := eR) (e2 := eR) o_neR (tx (r := (ixD thing_18 (D.int (1 : Int)))) (t_2p (e1 := eR) (e2 := eR) (e3 := eR) (top := ixD) (fun a b => by cases ixD a b <;> rfl) (t_var (e := eR) (a := thing_18) 11 rfl) (t_rawp (t_c (e := D.int) (a := 1)))) rfl) (t_raw (tx (r := ((atI found_14 (0 : Int)).bind fun a45 => ((some (0 : Int)).bind fun a46 => (atI a45 a46)))) (t_2 o_ixT (tx (r := (atI found_14 (0 : Int))) (t_2p o_ixL (t_var (e := (eL (eT D.int))) (a := found_14) 10 rfl) (t_c (e := D.int) (a := 0))) rfl) (t_c (e := D.int) (a := 0))) rfl))) rfl))) (r_m (r_ret (t_c (e := D.bl) (a := false)))) (a_m (a_skip (E := (fun _ : Unit => [some (D.int prime0), some (D.int length0), some (D.int many0), some (D.int wrong0), some ((eT D.int) x12), some (D.int total_15), some (D.int single_42), some (D.int p1.2.2), some (D.int p7.1), some (D.bl p7.2), some ((eL (eT D.int)) found_14), some (eR thing_18), none])) () rfl))) (fun _ => (a_wipe (ws := [4, 10, 11]) (E := (fun s13 : (Int × Int) => [some (D.int prime0), some (D.int length0), some (D.int many0), some (D.int wrong0), none, some (D.int s13.1), some (D.int s13.2), some (D.int p1.2.2), some (D.int p7.1), some (D.bl p7.2), none, none, none])) (total_15, single_42) rfl))))))))))))))))) (fun s13 => (r_ret (t_and (tx (r := ((some s13.1).bind fun a52 => ((mulO p1.2.2 p7.1).bind fun a53 => (some (decide (a52 = a53)))))) (t_2 (o_eq eq_int (by decide)) (t_var (e := D.int) (a := s13.1) 5 rfl) (tx (r := (mulO p1.2.2 p7.1)) (t_2p o_mul (t_var (e := D.int) (a := p1.2.2) 7 rfl) (t_var (e := D.int) (a := p7.1) 8 rfl)) rfl)) rfl) (t_orp (tx (r := (some (decide (s13.2 = s13.1)))) (t_2p (o_eq eq_int (by decide)) (t_var (e := D.int) (a := s13.2) 6 rfl) (t_var (e := D.int) (a := s13.1) 5 rfl)) rfl) (t_notp (t_var (e := D.bl) (a := p7.2) 9 rfl)))))))))))
@[irreducible] def T_dealt_post (p : Int) (l : Int) (m : Int) (ws : (List (List Int))) (ev : (List (List Int))) (at0 : Int) : Option Bool :=
  ((repO ([(0 : Int)] : (List Int)) (l + (1 : Int))).bind fun counts_1 => (((szO ws).bind fun as => foldO (fun (s2 : (List Int)) (x3 : (List Int)) => (((((some x3).bind fun a5 => ((atI ws at0).bind fun a6 => (zipO a5 a6))).map fun as => (as.filter (fun x7 : (Int × Int) => (!decide (x7.1 = x7.2)))).map (fun x7 : (Int × Int) => (1 : Int))).bind fun a8 => (some ((a8.length : Nat) : Int))).bind fun far_9 => ((((atI s2 far_9).bind fun a10 => ((some (1 : Int)).bind fun a11 => (some (a10 + a11)))).bind fun a13 => ((some far_9).bind fun a14 => (setO s2 a14 a13))).bind fun counts_12 => (some counts_12)))) counts_1 as).bind fun s4 => (orR ((((some s4).bind fun a15 => ((T__law_weights p l m).bind fun a16 => (some (!decide (a15 = a16))))).bind fun a18 => if a18 then ((some false).map .inl) else ((some ()).map .inr)) : Option (Bool ⊕ Unit)) fun _ => ((atI ev at0).bind fun items_19 => (orR (((((atI ws at0).bind fun a20 => (some a20)).bind fun a23 => ((((rangeO1 l).bind fun as => mapO (fun x21 : Int => (T_worth p items_19 (x21 + (1 : Int)))) as).bind fun a22 => (some a22)).bind fun a24 => (some (!decide (a23 = a24))))).bind fun a26 => if a26 then ((some false).map .inl) else ((some ()).map .inr)) : Option (Bool ⊕ Unit)) fun _ => ((((atI ws at0).bind fun a27 => ((szO a27).map fun ys => enumI 0 ys)).bind fun as => fmO (fun x28 : (Int × Int) => ((some x28.2).bind fun a31 => (((atI ws (0 : Int)).bind fun a29 => ((some x28.1).bind fun a30 => (atI a29 a30))).bind fun a32 => (some (!decide (a31 = a32)))))) (fun x28 : (Int × Int) => (some x28.1)) as).bind fun far_33 => (((((some p).bind fun a34 => ((atI ws at0).bind fun a35 => ((repTO ([(0 : Int)] : (List Int)) (m + (1 : Int))).bind fun a36 => (T_unlike_places a34 a35 a36)))).bind fun a37 => (some a37)).bind fun a38 => ((some far_33).bind fun a39 => (some (decide (a38 = a39))))).bind fun a46 => (if a46 then ((((some p).bind fun a40 => ((atI ws at0).bind fun a41 => ((some items_19).bind fun a42 => (T_unlike_places a40 a41 a42)))).bind fun a43 => (some a43)).bind fun a44 => ((some ([] : (List Int))).bind fun a45 => (some (decide (a44 = a45))))) else some false))))))))
theorem ok_T_dealt_post (p : Int) (l : Int) (m : Int) (ws : (List (List Int))) (ev : (List (List Int))) (at0 : Int) (io : PL.D) : TR [none, some (D.int p), some (D.int l), some (D.int m), some ((eL (eT D.int)) ws), some ((eL (eT D.int)) ev), some (D.int at0), none, none, none, none, none, none, none, none] io (sSeq (sNew (x2 repL (xLst (xCons (xC (.int 0)) xNil)) (x2 addA (xVar 2) (xC (.int 1)))) 7)
  (sSeq (sFor (xSeq (xVar 4)) (gN 8) (sSeq (sAsg (xCall lenA (xCons (xComp [13, 14] (xSrc zipS (xCons (xVar 8) (xCons (x2 ixD (xVar 4) (xVar 6)) xNil))) (gTup (gCons (gN 13) (gCons (gN 14) gNil))) (bX (x2 neD (xVar 13) (xVar 14))) (xC (.int 1))) xNil)) (gN 10))
  (sSeq (sSetI 7 (x2 addA (x2O ixD 7 (xVar 10)) (xC (.int 1))) (xVar 10)) (sWipe [8, 10]))) [8, 10])
  (sSeq (sIf (bX (x2 neD (xVar 7) (xCall F__law_weights (xCons (xVar 1) (xCons (xVar 2) (xCons (xVar 3) xNil)))))) (sRet (xC (.bl false))) sSkip)
  (sSeq (sAsg (x2 ixD (xVar 5) (xVar 6)) (gN 9))
  (sSeq (sIf (bX (x2 neD (xCall (op1 tupleD) (xCons (x2 ixD (xVar 4) (xVar 6)) xNil)) (xCall (op1 tupleD) (xCons (xComp [11] (xSrc range1 (xCons (xVar 2) xNil)) (gN 11) bYes (xCall F_worth (xCons (xVar 1) (xCons (xVar 9) (xCons (x2 addA (xVar 11) (xC (.int 1))) xNil))))) xNil)))) (sRet (xC (.bl false))) sSkip)
  (sSeq (sAsg (xComp [11, 12] (xSrc enumS (xCons (x2 ixD (xVar 4) (xVar 6)) xNil)) (gTup (gCons (gN 11) (gCons (gN 12) gNil))) (bX (x2 neD (xVar 12) (x2 ixD (x2 ixD (xVar 4) (xC (.int 0))) (xVar 11)))) (xVar 11)) (gN 10))
  (sRet (xAnd (x2 eqD (xCall (op1 listD) (xCons (xCall F_unlike_places (xCons (xVar 1) (xCons (x2 ixD (xVar 4) (xVar 6)) (xCons (x2 mulA (xTup (xCons (xC (.int 0)) xNil)) (x2 addA (xVar 3) (xC (.int 1)))) xNil)))) xNil)) (xVar 10)) (x2 eqD (xCall (op1 listD) (xCons (xCall F_unlike_places (xCons (xVar 1) (xCons (x2 ixD (xVar 4) (xVar 6)) (xCons (xVar 9) xNil)))) xNil)) (xLst xNil)))))))))) D.bl (T_dealt_post p l m ws ev at0) := by
  unfold T_dealt_post
  exact (q_ar (a_new (tx (r := (repO ([(0 : Int)] : (List Int)) (l + (1 : Int)))) (t_2p o_repLN (t_lstHp (th_consp (t_c (e := D.int) (a := 0)) (th_nil (e := D.int)))) (tx (r := (some (l + (1 : Int)))) (t_2p o_add (t_var (e := D.int) (a := l) 2 rfl) (t_c (e := D.int) (a := 1))) rfl)) rfl) rfl) (fun counts_1 => (q_ar (f_a (e := (eT D.int)) (E := (fun s4 : (List Int) => [none, some (D.int p), some (D.int l), some (D.int m), some ((eL (eT D.int)) ws), some ((eL (eT D.int)) ev), some (D.int at0), some ((eL D.int) s4), none, none, none, none, none, none, none])) (s0 := counts_1) (fun (s2 : (List Int)) (x3 : (List Int)) => [none, some (D.int p), some (D.int l), some (D.int m), some ((eL (eT D.int)) ws), some ((eL (eT D.int)) ev), some (D.int at0), some ((eL D.int) s2), some ((eT D.int) x3), none, none, none, none, none, none]) (step := (fun (s2 : (List Int)) (x3 : (List Int)) => (((((some x3).bind fun a5 => ((atI ws at0).bind fun a6 => (zipO a5 a6))).map fun as => (as.filter (fun x7 : (Int × Int) => (!decide (x7.1 = x7.2)))).map (fun x7 : (Int × Int) => (1 : Int))).bind fun a8 => (some ((a8.length : Nat) : Int))).bind fun far_9 => ((((atI s2 far_9).bind fun a10 => ((some (1 : Int)).bind fun a11 => (some (a10 + a11)))).bind fun a13 => ((some far_9).bind fun a14 => (setO s2 a14 a13))).bind fun counts_12 => (some counts_12))))) (th (r := (szO ws)) (ts_lstp (t_var (e := (eL (eT D.int))) (a := ws) 4 rfl)) rfl) rfl (fun _ => rfl) (fun _ _ => rfl) (fun s2 x3 => (q_aa (a_asg (E := (fun far_9 => [none, some (D.int p), some (D.int l), some (D.int m), some ((eL (eT D.int)) ws), some ((eL (eT D.int)) ev), some (D.int at0), some ((eL D.int) s2), some ((eT D.int) x3), none, some (D.int far_9), none, none, none, none])) (tx (r := ((((some x3).bind fun a5 => ((atI ws at0).bind fun a6 => (zipO a5 a6))).map fun as => (as.filter (fun x7 : (Int × Int) => (!decide (x7.1 = x7.2)))).map (fun x7 : (Int × Int) => (1 : Int))).bind fun a8 => (some ((a8.length : Nat) : Int)))) (t_call1 o_lenL (t_compF (e1 := (eP2 D.int D.int)) (e2 := D.int) (fun x7 => [none, some (D.int p), some (D.int l), some (D.int m), some ((eL (eT D.int)) ws), some ((eL (eT D.int)) ev), some (D.int at0), some ((eL D.int) s2), some ((eT D.int) x3), none, none, none, none, some (D.int x7.1), some (D.int x7.2)]) (p := (fun x7 : (Int × Int) => (!decide (x7.1 = x7.2)))) (h := (fun x7 : (Int × Int) => (1 : Int))) (th (r := ((some x3).bind fun a5 => ((atI ws at0).bind fun a6 => (zipO a5 a6)))) (ts_zipT (t_var (e := (eT D.int)) (a := x3) 8 rfl) (tx (r := (atI ws at0)) (t_2p o_ixL (t_var (e := (eL (eT D.int))) (a := ws) 4 rfl) (t_var (e := D.int) (a := at0) 6 rfl)) rfl)) rfl) (fun _ => rfl) (fun x7 => (tb_x (tx (r := (some (!decide (x7.1 = x7.2)))) (t_2p (o_ne eq_int (by decide)) (t_var (e := D.int) (a := x7.1) 13 rfl) (t_var (e := D.int) (a := x7.2) 14 rfl)) rfl))) (fun x7 => (t_c (e := D.int) (a := 1))))) rfl) (fun _ => rfl)) (fun far_9 => (q_aa (a_setI (i := 7) (xs := s2) (tx (r := ((atI s2 far_9).bind fun a10 => ((some (1 : Int)).bind fun a11 => (some (a10 + a11))))) (t_2 o_add (tx (r := (atI s2 far_9)) (t_ownIxp (fun _ => rfl) (i := 7) (xs := s2) rfl (t_var (e := D.int) (a := far_9) 10 rfl)) rfl) (t_c (e := D.int) (a := 1))) rfl) (t_var (e := D.int) (a := far_9) 10 rfl) rfl) (fun counts_12 => (a_wipe (ws := [8, 10]) (E := (fun s4 : (List Int) => [none, some (D.int p), some (D.int l), some (D.int m), some ((eL (eT D.int)) ws), some ((eL (eT D.int)) ev), some (D.int at0), some ((eL D.int) s4), none, none, none, none, none, none, none])) counts_12 rfl))))))) (fun s4 => (q_mr (i_m (er := D.bl) (E := (fun _ : Unit => [none, some (D.int p), some (D.int l), some (D.int m), some ((eL (eT D.int)) ws), some ((eL (eT D.int)) ev), some (D.int at0), some ((eL D.int) s4), none, none, none, none, none, none, none])) (tb_x (tx (r := ((some s4).bind fun a15 => ((T__law_weights p l m).bind fun a16 => (some (!decide (a15 = a16)))))) (t_2 (o_ne (eq_L eq_int) (by decide)) (t_var (e := (eL D.int)) (a := s4) 7 rfl) (tx (r := (T__law_weights p l m)) (t_call3p ok_T__law_weights (t_var (e := D.int) (a := p) 1 rfl) (t_var (e := D.int) (a := l) 2 rfl) (t_var (e := D.int) (a := m) 3 rfl)) rfl)) rfl)) (r_m (r_ret (t_c (e := D.bl) (a := false)))) (a_m (a_skip (E := (fun _ : Unit => [none, some (D.int p), some (D.int l), some (D.int m), some ((eL (eT D.int)) ws), some ((eL (eT D.int)) ev), some (D.int at0), some ((eL D.int) s4), none, none, none, none, none, none, none])) () rfl))) (fun _ => (q_ar (a_asg (E := (fun items_19 => [none, some (D.int p), some (D.int l), some (D.int m), some ((eL (eT D.int)) ws), some ((eL (eT D.int)) ev), some (D.int at0), some ((eL D.int) s4), none, some ((eT D.int) items_19), none, none, none, none, none])) (tx (r := (atI ev at0)) (t_2p o_ixL (t_var (e := (eL (eT D.int))) (a := ev) 5 rfl) (t_var (e := D.int) (a := at0) 6 rfl)) rfl) (fun _ => rfl)) (fun items_19 => (q_mr (i_m (er := D.bl) (E := (fun _ : Unit => [none, some (D.int p), some (D.int l), some (D.int m), some ((eL (eT D.int)) ws), some ((eL (eT D.int)) ev), some (D.int at0), some ((eL D.int) s4), none, some ((eT D.int) items_19), none, none, none, none, none])) (tb_x (tx (r := (((atI ws at0).bind fun a20 => (some a20)).bind fun a23 => ((((rangeO1 l).bind fun as => mapO (fun x21 : Int => (T_worth p items_19 (x21 + (1 : Int)))) as).bind fun a22 => (some a22)).bind fun a24 => (some (!decide (a23 = a24)))))) (t_2 (o_ne (eq_T eq_int) (by decide)) (tx (r := ((atI ws at0).bind fun a20 => (some a20))) (t_call1 o_tupT (tx (r := (atI ws at0)) (t_2p o_ixL (t_var (e := (eL (eT D.int))) (a := ws) 4 rfl) (t_var (e := D.int) (a := at0) 6 rfl)) rfl)) rfl) (tx (r := (((rangeO1 l).bind fun as => mapO (fun x21 : Int => (T_worth p items_19 (x21 + (1 : Int)))) as).bind fun a22 => (some a22))) (t_call1 o_tupL (t_compA (e1 := D.int) (e2 := D.int) (fun x21 => [none, some (D.int p), some (D.int l), some (D.int m), some ((eL (eT D.int)) ws), some ((eL (eT D.int)) ev), some (D.int at0), some ((eL D.int) s4), none, some ((eT D.int) items_19), none, some (D.int x21), none, none, none]) (h := (fun x21 : Int => (T_worth p items_19 (x21 + (1 : Int))))) (th (r := (rangeO1 l)) (ts_range1p (t_var (e := D.int) (a := l) 2 rfl)) rfl) (fun _ => rfl) (fun x21 => (tx (r := (T_worth p items_19 (x21 + (1 : Int)))) (t_call3p ok_T_worth (t_var (e := D.int) (a := p) 1 rfl) (t_var (e := (eT D.int)) (a := items_19) 9 rfl) (tx (r := (some (x21 + (1 : Int)))) (t_2p o_add (t_var (e := D.int) (a := x21) 11 rfl) (t_c (e := D.int) (a := 1))) rfl)) rfl)))) rfl)) rfl)) (r_m (r_ret (t_c (e := D.bl) (a := false)))) (a_m (a_skip (E := (fun _ : Unit => [none, some (D.int p), some (D.int l), some (D.int m), some ((eL (eT D.int)) ws), some ((eL (eT D.int)) ev), some (D.int at0), some ((eL D.int) s4), none, some ((eT D.int) items_19), none, none, none, none, none])) () rfl))) (fun _ => (q_ar (a_asg (E := (fun far_33 => [none, some (D.int p), some (D.int l), some (D.int m), some ((eL (eT D.int)) ws), some ((eL (eT D.int)) ev), some (D.int at0), some ((eL D.int) s4), none, some ((eT D.int) items_19), some ((eL D.int) far_33), none, none, none, none])) (t_comp (e1 := (eP2 D.int D.int)) (e2 := D.int) (fun x28 => [none, some (D.int p), some (D.int l), some (D.int m), some ((eL (eT D.int)) ws), some ((eL (eT D.int)) ev), some (D.int at0), some ((eL D.int) s4), none, some ((eT D.int) items_19), none, some (D.int x28.1), some (D.int x28.2), none, none]) (p := (fun x28 : (Int × Int) => ((some x28.2).bind fun a31 => (((atI ws (0 : Int)).bind fun a29 => ((some x28.1).bind fun a30 => (atI a29 a30))).bind fun a32 => (some (!decide (a31 = a32))))))) (h := (fun x28 : (Int × Int) => (some x28.1))) (th (r := ((atI ws at0).bind fun a27 => ((szO a27).map fun ys => enumI 0 ys))) (ts_enumT (tx (r := (atI ws at0)) (t_2p o_ixL (t_var (e := (eL (eT D.int))) (a := ws) 4 rfl) (t_var (e := D.int) (a := at0) 6 rfl)) rfl)) rfl) (fun _ => rfl) (fun x28 => (tb_x (tx (r := ((some x28.2).bind fun a31 => (((atI ws (0 : Int)).bind fun a29 => ((some x28.1).bind fun a30 => (atI a29 a30))).bind fun a32 => (some (!decide (a31 = a32)))))) (t_2 (o_ne eq_int (by decide)) (t_var (e := D.int) (a := x28.2) 12 rfl) (tx (r := ((atI ws (0 : Int)).bind fun a29 => ((some x28.1).bind fun a30 => (atI a29 a30)))) (t_2 o_ixT (tx (r := (atI ws (0 : Int))) (t_2p o_ixL (t_var (e := (eL (eT D.int))) (a := ws) 4 rfl) (t_c (e := D.int) (a := 0))) rfl) (t_var (e := D.int) (a := x28.1) 11 rfl)) rfl)) rfl))) (fun x28 => (t_var (e := D.int) (a := x28.1) 11 rfl))) (fun _ => rfl)) (fun far_33 => (r_ret (t_and (tx (r := ((((some p).bind fun a34 => ((atI ws at0).bind fun a35 => ((repTO ([(0 : Int)] : (List Int)) (m + (1 : Int))).bind fun a36 => (T_unlike_places a34 a35 a36)))).bind fun a37 => (some a37)).bind fun a38 => ((some far_33).bind fun a39 => (some (decide (a38 = a39)))))) (t_2 (o_eq (eq_L eq_int) (by decide)) (tx (r := (((some p).bind fun a34 => ((atI ws at0).bind fun a35 => ((repTO ([(0 : Int)] : (List Int)) (m + (1 : Int))).bind fun a36 => (T_unlike_places a34 a35 a36)))).bind fun a37 => (some a37))) (t_call1 o_lstT (tx (r := ((some p).bind fun a34 => ((atI ws at0).bind fun a35 => ((repTO ([(0 : Int)] : (List Int)) (m + (1 : Int))).bind fun a36 => (T_unlike_places a34 a35 a36))))) (t_call3 ok_T_unlike_places (t_var (e := D.int) (a := p) 1 rfl) (tx (r := (atI ws at0)) (t_2p o_ixL (t_var (e := (eL (eT D.int))) (a := ws) 4 rfl) (t_var (e := D.int) (a := at0) 6 rfl)) rfl) (tx (r := (repTO ([(0 : Int)] : (List Int)) (m + (1 : Int)))) (t_2p o_repT (t_tupHp (th_consp (t_c (e := D.int) (a := 0)) (th_nil (e := D.int)))) (tx (r := (some (m + (1 : Int)))) (t_2p o_add (t_var (e := D.int) (a := m) 3 rfl) (t_c (e := D.int) (a := 1))) rfl)) rfl)) rfl)) rfl) (t_var (e := (eL D.int)) (a := far_33) 10 rfl)) rfl) (tx (r := ((((some p).bind fun a40 => ((atI ws at0).bind fun a41 => ((some items_19).bind fun a42 => (T_unlike_places a40 a41 a42)))).bind fun a43 => (some a43)).bind fun a44 => ((some ([] : (List Int))).bind fun a45 => (some (decide (a44 = a45)))))) (t_2 (o_eq (eq_L eq_int) (by decide)) (tx (r := (((some p).bind fun a40 => ((atI ws at0).bind fun a41 => ((some items_19).bind fun a42 => (T_unlike_places a40 a41 a42)))).bind fun a43 => (some a43))) (t_call1 o_lstT (tx (r := ((some p).bind fun a40 => ((atI ws at0).bind fun a41 => ((some items_19).bind fun a42 => (T_unlike_places a40 a41 a42))))) (t_call3 ok_T_unlike_places (t_var (e := D.int) (a := p) 1 rfl) (tx (r := (atI ws at0)) (t_2p o_ixL (t_var (e := (eL (eT D.int))) (a := ws) 4 rfl) (t_var (e := D.int) (a := at0) 6 rfl)) rfl) (t_var (e := (eT D.int)) (a := items_19) 9 rfl)) rfl)) rfl) (t_lstHp (th_nil (e := D.int)))) rfl)))))))))))))))
@[irreducible] def T_dealt_rest (p : Int) (l : Int) (m : Int) (ws : (List (List Int))) (ev : (List (List Int))) (at0 : Int) : Option Bool :=
  ((atI ev at0).bind fun items_1 => (orR (((((atI ws at0).bind fun a2 => (some a2)).bind fun a5 => ((((rangeO1 l).bind fun as => mapO (fun x3 : Int => (T_worth p items_1 (x3 + (1 : Int)))) as).bind fun a4 => (some a4)).bind fun a6 => (some (!decide (a5 = a6))))).bind fun a8 => if a8 then ((some false).map .inl) else ((some ()).map .inr)) : Option (Bool ⊕ Unit)) fun _ => ((((atI ws at0).bind fun a9 => ((szO a9).map fun ys => enumI 0 ys)).bind fun as => fmO (fun x10 : (Int × Int) => ((some x10.2).bind fun a13 => (((atI ws (0 : Int)).bind fun a11 => ((some x10.1).bind fun a12 => (atI a11 a12))).bind fun a14 => (some (!decide (a13 = a14)))))) (fun x10 : (Int × Int) => (some x10.1)) as).bind fun far_15 => (((((some p).bind fun a16 => ((atI ws at0).bind fun a17 => ((repTO ([(0 : Int)] : (List Int)) (m + (1 : Int))).bind fun a18 => (T_unlike_places a16 a17 a18)))).bind fun a19 => (some a19)).bind fun a20 => ((some far_15).bind fun a21 => (some (decide (a20 = a21))))).bind fun a28 => (if a28 then ((((some p).bind fun a22 => ((atI ws at0).bind fun a23 => ((some items_1).bind fun a24 => (T_unlike_places a22 a23 a24)))).bind fun a25 => (some a25)).bind fun a26 => ((some ([] : (List Int))).bind fun a27 => (some (decide (a26 = a27))))) else some false)))))
theorem ok_T_dealt_rest (p : Int) (l : Int) (m : Int) (ws : (List (List Int))) (ev : (List (List Int))) (at0 : Int) (io : PL.D) : TR [none, some (D.int p), some (D.int l), some (D.int m), some ((eL (eT D.int)) ws), some ((eL (eT D.int)) ev), some (D.int at0), none, none, none, none, none, none, none, none] io (sSeq (sAsg (x2 ixD (xVar 5) (xVar 6)) (gN 9))
  (sSeq (sIf (bX (x2 neD (xCall (op1 tupleD) (xCons (x2 ixD (xVar 4) (xVar 6)) xNil)) (xCall (op1 tupleD) (xCons (xComp [11] (xSrc range1 (xCons (xVar 2) xNil)) (gN 11) bYes (xCall F_worth (xCons (xVar 1) (xCons (xVar 9) (xCons (x2 addA (xVar 11) (xC (.int 1))) xNil))))) xNil)))) (sRet (xC (.bl false))) sSkip)
  (sSeq (sAsg (xComp [11, 12] (xSrc enumS (xCons (x2 ixD (xVar 4) (xVar 6)) xNil)) (gTup (gCons (gN 11) (gCons (gN 12) gNil))) (bX (x2 neD (xVar 12) (x2 ixD (x2 ixD (xVar 4) (xC (.int 0))) (xVar 11)))) (xVar 11)) (gN 10))
  (sRet (xAnd (x2 eqD (xCall (op1 listD) (xCons (xCall F_unlike_places (xCons (xVar 1) (xCons (x2 ixD (xVar 4) (xVar 6)) (xCons (x2 mulA (xTup (xCons (xC (.int 0)) xNil)) (x2 addA (xVar 3) (xC (.int 1)))) xNil)))) xNil)) (xVar 10)) (x2 eqD (xCall (op1 listD) (xCons (xCall F_unlike_places (xCons (xVar 1) (xCons (x2 ixD (xVar 4) (xVar 6)) (xCons (xVar 9) xNil)))) xNil)) (xLst xNil))))))) D.bl (T_dealt_rest p l m ws ev at0) := by
  unfold T_dealt_rest
  exact (q_ar (a_asg (E := (fun items_1 => [none, some (D.int p), some (D.int l), some (D.int m), some ((eL (eT D.int)) ws), some ((eL (eT D.int)) ev), some (D.int at0), none, none, some ((eT D.int) items_1), none, none, none, none, none])) (tx (r := (atI ev at0)) (t_2p o_ixL (t_var (e := (eL (eT D.int))) (a := ev) 5 rfl) (t_var (e := D.int) (a := at0) 6 rfl)) rfl) (fun _ => rfl)) (fun items_1 => (q_mr (i_m (er := D.bl) (E := (fun _ : Unit => [none, some (D.int p), some (D.int l), some (D.int m), some ((eL (eT D.int)) ws), some ((eL (eT D.int)) ev), some (D.int at0), none, none, some ((eT D.int) items_1), none, none, none, none, none])) (tb_x (tx (r := (((atI ws at0).bind fun a2 => (some a2)).bind fun a5 => ((((rangeO1 l).bind fun as => mapO (fun x3 : Int => (T_worth p items_1 (x3 + (1 : Int)))) as).bind fun a4 => (some a4)).bind fun a6 => (some (!decide (a5 = a6)))))) (t_2 (o_ne (eq_T eq_int) (by decide)) (tx (r := ((atI ws at0).bind fun a2 => (some a2))) (t_call1 o_tupT (tx (r := (atI ws at0)) (t_2p o_ixL (t_var (e := (eL (eT D.int))) (a := ws) 4 rfl) (t_var (e := D.int) (a := at0) 6 rfl)) rfl)) rfl) (tx (r := (((rangeO1 l).bind fun as => mapO (fun x3 : Int => (T_worth p items_1 (x3 + (1 : Int)))) as).bind fun a4 => (some a4))) (t_call1 o_tupL (t_compA (e1 := D.int) (e2 := D.int) (fun x3 => [none, some (D.int p), some (D.int l), some (D.int m), some ((eL (eT D.int)) ws), some ((eL (eT D.int)) ev), some (D.int at0), none, none, some ((eT D.int) items_1), none, some (D.int x3), none, none, none]) (h := (fun x3 : Int => (T_worth p items_1 (x3 + (1 : Int))))) (th (r := (rangeO1 l)) (ts_range1p (t_var (e := D.int) (a := l) 2 rfl)) rfl) (fun _ => rfl) (fun x3 => (tx (r := (T_worth p items_1 (x3 + (1 : Int)))) (t_call3p ok_T_worth (t_var (e := D.int) (a := p) 1 rfl) (t_var (e := (eT D.int)) (a := items_1) 9 rfl) (tx (r := (some (x3 + (1 : Int)))) (t_2p o_add (t_var (e := D.int) (a := x3) 11 rfl) (t_c (e := D.int) (a := 1))) rfl)) rfl)))) rfl)) rfl)) (r_m (r_ret (t_c (e := D.bl) (a := false)))) (a_m (a_skip (E := (fun _ : Unit => [none, some (D.int p), some (D.int l), some (D.int m), some ((eL (eT D.int)) ws), some ((eL (eT D.int)) ev), some (D.int at0), none, none, some ((eT D.int) items_1), none, none, none, none, none])) () rfl))) (fun _ => (q_ar (a_asg (E := (fun far_15 => [none, some (D.int p), some (D.int l), some (D.int m), some ((eL (eT D.int)) ws), some ((eL (eT D.int)) ev), some (D.int at0), none, none, some ((eT D.int) items_1), some ((eL D.int) far_15), none, none, none, none])) (t_comp (e1 := (eP2 D.int D.int)) (e2 := D.int) (fun x10 => [none, some (D.int p), some (D.int l), some (D.int m), some ((eL (eT D.int)) ws), some ((eL (eT D.int)) ev), some (D.int at0), none, none, some ((eT D.int) items_1), none, some (D.int x10.1), some (D.int x10.2), none, none]) (p := (fun x10 : (Int × Int) => ((some x10.2).bind fun a13 => (((atI ws (0 : Int)).bind fun a11 => ((some x10.1).bind fun a12 => (atI a11 a12))).bind fun a14 => (some (!decide (a13 = a14))))))) (h := (fun x10 : (Int × Int) => (some x10.1))) (th (r := ((atI ws at0).bind fun a9 => ((szO a9).map fun ys => enumI 0 ys))) (ts_enumT (tx (r := (atI ws at0)) (t_2p o_ixL (t_var (e := (eL (eT D.int))) (a := ws) 4 rfl) (t_var (e := D.int) (a := at0) 6 rfl)) rfl)) rfl) (fun _ => rfl) (fun x10 => (tb_x (tx (r := ((some x10.2).bind fun a13 => (((atI ws (0 : Int)).bind fun a11 => ((some x10.1).bind fun a12 => (atI a11 a12))).bind fun a14 => (some (!decide (a13 = a14)))))) (t_2 (o_ne eq_int (by decide)) (t_var (e := D.int) (a := x10.2) 12 rfl) (tx (r := ((atI ws (0 : Int)).bind fun a11 => ((some x10.1).bind fun a12 => (atI a11 a12)))) (t_2 o_ixT (tx (r := (atI ws (0 : Int))) (t_2p o_ixL (t_var (e := (eL (eT D.int))) (a := ws) 4 rfl) (t_c (e := D.int) (a := 0))) rfl) (t_var (e := D.int) (a := x10.1) 11 rfl)) rfl)) rfl))) (fun x10 => (t_var (e := D.int) (a := x10.1) 11 rfl))) (fun _ => rfl)) (fun far_15 => (r_ret (t_and (tx (r := ((((some p).bind fun a16 => ((atI ws at0).bind fun a17 => ((repTO ([(0 : Int)] : (List Int)) (m + (1 : Int))).bind fun a18 => (T_unlike_places a16 a17 a18)))).bind fun a19 => (some a19)).bind fun a20 => ((some far_15).bind fun a21 => (some (decide (a20 = a21)))))) (t_2 (o_eq (eq_L eq_int) (by decide)) (tx (r := (((some p).bind fun a16 => ((atI ws at0).bind fun a17 => ((repTO ([(0 : Int)] : (List Int)) (m + (1 : Int))).bind fun a18 => (T_unlike_places a16 a17 a18)))).bind fun a19 => (some a19))) (t_call1 o_lstT (tx (r := ((some p).bind fun a16 => ((atI ws at0).bind fun a17 => ((repTO ([(0 : Int)] : (List Int)) (m + (1 : Int))).bind fun a18 => (T_unlike_places a16 a17 a18))))) (t_call3 ok_T_unlike_places (t_var (e := D.int) (a := p) 1 rfl) (tx (r := (atI ws at0)) (t_2p o_ixL (t_var (e := (eL (eT D.int))) (a := ws) 4 rfl) (t_var (e := D.int) (a := at0) 6 rfl)) rfl) (tx (r := (repTO ([(0 : Int)] : (List Int)) (m + (1 : Int)))) (t_2p o_repT (t_tupHp (th_consp (t_c (e := D.int) (a := 0)) (th_nil (e := D.int)))) (tx (r := (some (m + (1 : Int)))) (t_2p o_add (t_var (e := D.int) (a := m) 3 rfl) (t_c (e := D.int) (a := 1))) rfl)) rfl)) rfl)) rfl) (t_var (e := (eL D.int)) (a := far_15) 10 rfl)) rfl) (tx (r := ((((some p).bind fun a22 => ((atI ws at0).bind fun a23 => ((some items_1).bind fun a24 => (T_unlike_places a22 a23 a24)))).bind fun a25 => (some a25)).bind fun a26 => ((some ([] : (List Int))).bind fun a27 => (some (decide (a26 = a27)))))) (t_2 (o_eq (eq_L eq_int) (by decide)) (tx (r := (((some p).bind fun a22 => ((atI ws at0).bind fun a23 => ((some items_1).bind fun a24 => (T_unlike_places a22 a23 a24)))).bind fun a25 => (some a25))) (t_call1 o_lstT (tx (r := ((some p).bind fun a22 => ((atI ws at0).bind fun a23 => ((some items_1).bind fun a24 => (T_unlike_places a22 a23 a24))))) (t_call3 ok_T_unlike_places (t_var (e := D.int) (a := p) 1 rfl) (tx (r := (atI ws at0)) (t_2p o_ixL (t_var (e := (eL (eT D.int))) (a := ws) 4 rfl) (t_var (e := D.int) (a := at0) 6 rfl)) rfl) (t_var (e := (eT D.int)) (a := items_1) 9 rfl)) rfl)) rfl) (t_lstHp (th_nil (e := D.int)))) rfl)))))))))
end My

namespace My
open PySem PySem.Spec PyProof.Rows L2 PL
theorem small_mod (x k : Int) (h : 0 < k) (h2 : k ≤ 4294967296) : PL.small64 (x % k) = true := by
  have h3 := Int.emod_nonneg x (b := k) (by omega)
  have h4 := Int.emod_lt_of_pos x h
  unfold PL.small64
  rw [decide_eq_true (by omega), decide_eq_true (by omega)]
  rfl
/-- one draw: a number below many -/
theorem draw_ok (cs : List Int) (i1 i2 i3 i4 m : Int) (h1 : 0 ≤ i1) (hm : 0 < m) (hm2 : m < 1073741824) : ∃ d j1 j2 j3 j4, F__law_draw (hd cs i1 i2 i3 i4) [.int m] = some (.int d, hd cs j1 j2 j3 j4) ∧ 0 ≤ j1 ∧ 0 ≤ d ∧ d < m := by
  have key : ∀ (r : Fl × PL.Env × D), g__law_draw [none, some (.int m), none, none, none] (hd cs i1 i2 i3 i4) = some r → ∀ d io', r.1 = .rt d → r.2.2 = io' → F__law_draw (hd cs i1 i2 i3 i4) [.int m] = some (d, io') := by
    intro r hr d io' h1 h2
    show ((g__law_draw [none, some (.int m), none, none, none] (hd cs i1 i2 i3 i4)).bind _) = _
    rw [hr]
    obtain ⟨fl, x, io⟩ := r
    cases h1
    cases h2
    rfl
  have vm : ∀ io x3 x4 x2, Ev [none, some (.int m), x2, x3, x4] io (xVar 1) (.int m) := fun _ _ _ _ => rfl
  -- behind the first if
  have rest : ∀ j1 j2 j3, 0 ≤ j1 → ∃ d k1 k2 k3 k4 x, (sSeq (sIf (bX (x2 gtI (xIoIx (xC (.int 2))) (xC (.int 0)))) (sSeq (sAsg (x2 modI (xCall (op1 intD) (xCons (xIoIx (xC (.int 2))) xNil)) (xVar 1)) (gN 4))
  (sSeq (sIoSet (x2 fdivI (xIoIx (xC (.int 2))) (xVar 1)) (xC (.int 2)))
  (sRet (xVar 4)))) sSkip)
  (sSeq (sIoSet (x2 addA (xIoIx (xC (.int 4))) (xC (.int 1))) (xC (.int 4)))
  (sSeq (sAsg (x2 modI (xCall (op1 intD) (xCons (x2 mulA (xCall (op1 intD) (xCons (x2 addA (xIoIx (xC (.int 3))) (x2 mulA (xC (.int 7919)) (xIoIx (xC (.int 4))))) xNil)) (xC (.int 48271))) xNil)) (xC (.int 2147483647))) (gN 2))
  (sSeq (sAsg (x2 modI (xCall (op1 intD) (xCons (x2 mulA (xVar 2) (x2 addA (x2 fdivI (xVar 2) (xC (.int 1009))) (xC (.int 69621)))) xNil)) (xC (.int 2147483647))) (gN 2))
  (sSeq (sAsg (x2 modI (xCall (op1 intD) (xCons (x2 mulA (xVar 2) (x2 addA (x2 fdivI (xVar 2) (xC (.int 2003))) (xC (.int 40014)))) xNil)) (xC (.int 2147483563))) (gN 2))
  (sRet (x2 modI (xCall (op1 intD) (xCons (x2 fdivI (xVar 2) (xC (.int 16))) xNil)) (xVar 1)))))))) [none, some (.int m), none, none, none] (hd cs j1 j2 j3 i4) = some (.rt (.int d), x, hd cs k1 k2 k3 k4) ∧ 0 ≤ k1 ∧ 0 ≤ d ∧ d < m := by
    intro j1 j2 j3 hj
    by_cases h2 : 0 < j2
    · refine ⟨j2 % m, j1, j2 / m, j3, i4, [none, some (.int m), none, none, some (.int (j2 % m))], ?_, hj, Int.emod_nonneg _ (by omega), Int.emod_lt_of_pos _ hm⟩
      refine seq_rt' ?_
      rw [sIf_run (ev_bX (ev_2 (z := .bl (decide (0 < j2))) rfl rd2 ev_c)), decide_eq_true h2, if_pos rfl]
      rw [seq_run (sAsg_run (env' := [none, some (.int m), none, none, some (.int (j2 % m))]) (ev_2 (modI_p hm) (ev_call rfl rd2) (vm _ _ _ _)) rfl)]
      rw [seq_run (st2 (ev_2 (fdivI_p hm hm2) rd2 (vm _ _ _ _)))]
      rfl
    · rw [seq_run (x := [none, some (.int m), none, none, none]) (io' := hd cs j1 j2 j3 i4) (by
        rw [sIf_run (ev_bX (ev_2 (z := .bl (decide (0 < j2))) rfl rd2 ev_c)), decide_eq_false h2, if_neg Bool.false_ne_true]
        rfl)]
      rw [seq_run (st4 (ev_2 (z := .int (i4 + 1)) rfl rd4 ev_c))]
      have vn : ∀ (n : Int) io, Ev [none, some (.int m), some (.int n), none, none] io (xVar 2) (.int n) := fun _ _ => rfl
      let n1 : Int := ((j3 + 7919 * (i4 + 1)) * 48271) % 2147483647
      let n2 : Int := (n1 * (n1 / 1009 + 69621)) % 2147483647
      let n3 : Int := (n2 * (n2 / 2003 + 40014)) % 2147483563
      rw [seq_run (sAsg_run (env' := [none, some (.int m), some (.int n1), none, none]) (ev_2 (modI_p (by decide)) (ev_call rfl (ev_2 (mulA_r (by decide)) (ev_call rfl (ev_2 rfl rd3 (ev_2 (mulA_l (by decide)) ev_c rd4))) ev_c)) ev_c) rfl)]
      rw [seq_run (sAsg_run (env' := [none, some (.int m), some (.int n2), none, none]) (ev_2 (modI_p (by decide)) (ev_call rfl (ev_2 (mulA_l (small_mod _ _ (by decide) (by decide))) (vn n1 _) (ev_2 rfl (ev_2 (fdivI_p (by decide) (by decide)) (vn n1 _) ev_c) ev_c))) ev_c) rfl)]
      rw [seq_run (sAsg_run (env' := [none, some (.int m), some (.int n3), none, none]) (ev_2 (modI_p (by decide)) (ev_call rfl (ev_2 (mulA_l (small_mod _ _ (by decide) (by decide))) (vn n2 _) (ev_2 rfl (ev_2 (fdivI_p (by decide) (by decide)) (vn n2 _) ev_c) ev_c))) ev_c) rfl)]
      rw [sRet_run (ev_2 (modI_p hm) (ev_call rfl (ev_2 (fdivI_p (by decide) (by decide)) (vn n3 _) ev_c)) (vm _ _ _ _))]
      exact ⟨n3 / 16 % m, j1, j2, j3, i4 + 1, _, rfl, hj, Int.emod_nonneg _ (by omega), Int.emod_lt_of_pos _ hm⟩
  -- the first if
  have first : ∃ j1 j2 j3, 0 ≤ j1 ∧ (sIf (bAnd (bX (x2 eqD (xIoIx (xC (.int 2))) (xC (.int 0)))) (bX (x2 ltI (xIoIx (xC (.int 1))) (xCall lenA (xCons (xIoIx (xC (.int 0))) xNil))))) (sSeq (sAsg (x2 ixD (xIoIx (xC (.int 0))) (xIoIx (xC (.int 1)))) (gN 3))
  (sSeq (sIoSet (x2 addA (xIoIx (xC (.int 1))) (xC (.int 1))) (xC (.int 1)))
  (sSeq (sIoSet (x2 modI (xCall (op1 intD) (xCons (x2 addA (x2 addA (x2 mulA (xIoIx (xC (.int 3))) (xC (.int 69621))) (x2 mulA (xVar 3) (xC (.int 40692)))) (xC (.int 1033))) xNil)) (xC (.int 2147483629))) (xC (.int 3)))
  (sSeq (sIf (bX (x2 geI (xVar 3) (x2 powI (xC (.int 10)) (xC (.int 18))))) (sSeq (sIoSet (xVar 3) (xC (.int 2))) sSkip) sSkip) (sWipe [3]))))) (sWipe [3])) [none, some (.int m), none, none, none] (hd cs i1 i2 i3 i4) = some (.nx, [none, some (.int m), none, none, none], hd cs j1 j2 j3 i4) := by
    by_cases hc : i2 = 0 ∧ i1 < (cs.length : Int)
    · obtain ⟨x, hx⟩ := atI_ok (xs := cs) h1 hc.2
      have vx : ∀ io, Ev [none, some (.int m), none, some (.int x), none] io (xVar 3) (.int x) := fun _ => rfl
      have hx2 : ixD (.lst (cs.map D.int)) (.int i1) = some (.int x) := by
        have := o_ixL (e := D.int) cs i1
        rw [hx] at this
        exact this
      have test : bAnd (bX (x2 eqD (xIoIx (xC (.int 2))) (xC (.int 0)))) (bX (x2 ltI (xIoIx (xC (.int 1))) (xCall lenA (xCons (xIoIx (xC (.int 0))) xNil)))) [none, some (.int m), none, none, none] (hd cs i1 i2 i3 i4) = some (true, hd cs i1 i2 i3 i4) := by
        rw [bAnd_t (by rw [ev_bX (ev_2 eqD_i rd2 ev_c), decide_eq_true hc.1])]
        rw [ev_bX (ev_2 (z := .bl (decide (i1 < (cs.length : Int)))) rfl rd1 (ev_call (o_lenL (e := D.int) cs) rd0)), decide_eq_true hc.2]
      rw [sIf_run test, if_pos rfl]
      rw [seq_run (sAsg_run (env' := [none, some (.int m), none, some (.int x), none]) (ev_2 hx2 rd0 rd1) rfl)]
      rw [seq_run (st1 (ev_2 (z := .int (i1 + 1)) rfl rd1 ev_c))]
      rw [seq_run (st3 (ev_2 (modI_p (by decide)) (ev_call rfl (ev_2 rfl (ev_2 rfl (ev_2 (mulA_r (by decide)) rd3 ev_c) (ev_2 (mulA_r (by decide)) (vx _) ev_c)) ev_c)) ev_c))]
      by_cases hb : (10 ^ 18 : Int) ≤ x
      · refine ⟨i1 + 1, x, (i3 * 69621 + x * 40692 + 1033) % 2147483629, by omega, ?_⟩
        rw [seq_run (x := [none, some (.int m), none, some (.int x), none]) (by
          rw [sIf_run (ev_bX (ev_2 (z := .bl (decide ((10 ^ 18 : Int) ≤ x))) rfl (vx _) (ev_2 (z := .int (10 ^ 18)) rfl ev_c ev_c))), decide_eq_true hb, if_pos rfl]
          rw [seq_run (st2 (vx _))]
          rfl)]
        rfl
      · refine ⟨i1 + 1, i2, (i3 * 69621 + x * 40692 + 1033) % 2147483629, by omega, ?_⟩
        rw [seq_run (x := [none, some (.int m), none, some (.int x), none]) (by
          rw [sIf_run (ev_bX (ev_2 (z := .bl (decide ((10 ^ 18 : Int) ≤ x))) rfl (vx _) (ev_2 (z := .int (10 ^ 18)) rfl ev_c ev_c))), decide_eq_false hb, if_neg Bool.false_ne_true]
          rfl)]
        rfl
    · refine ⟨i1, i2, i3, h1, ?_⟩
      have test : bAnd (bX (x2 eqD (xIoIx (xC (.int 2))) (xC (.int 0)))) (bX (x2 ltI (xIoIx (xC (.int 1))) (xCall lenA (xCons (xIoIx (xC (.int 0))) xNil)))) [none, some (.int m), none, none, none] (hd cs i1 i2 i3 i4) = some (false, hd cs i1 i2 i3 i4) := by
        by_cases h0 : i2 = 0
        · rw [bAnd_t (by rw [ev_bX (ev_2 eqD_i rd2 ev_c), decide_eq_true h0])]
          rw [ev_bX (ev_2 (z := .bl (decide (i1 < (cs.length : Int)))) rfl rd1 (ev_call (o_lenL (e := D.int) cs) rd0)), decide_eq_false fun z => hc ⟨h0, z⟩]
        · rw [bAnd_f (by rw [ev_bX (ev_2 eqD_i rd2 ev_c), decide_eq_false h0])]
      rw [sIf_run test, if_neg Bool.false_ne_true]
      rfl
  obtain ⟨j1, j2, j3, hj, hf⟩ := first
  obtain ⟨d, k1, k2, k3, k4, x, hr, hk, hd1, hd2⟩ := rest j1 j2 j3 hj
  refine ⟨d, k1, k2, k3, k4, ?_, hk, hd1, hd2⟩
  refine key (.rt (.int d), x, hd cs k1 k2 k3 k4) ?_ _ _ rfl rfl
  show sSeq _ _ _ _ = _
  rw [seq_run hf]
  exact hr

/-! ### one of some -/
theorem any_ok {α : Type} {e : α → D} (xs : List α) (cs : List Int) (i1 i2 i3 i4 : Int) (h1 : 0 ≤ i1) (hm : 0 < xs.length) (hm2 : xs.length < 1073741824) : ∃ x, x ∈ xs ∧ ∃ j1 j2 j3 j4, F__law_any (hd cs i1 i2 i3 i4) [eL e xs] = some (e x, hd cs j1 j2 j3 j4) ∧ 0 ≤ j1 := by
  obtain ⟨d, j1, j2, j3, j4, h2, h3, h4, h5⟩ := draw_ok cs i1 i2 i3 i4 (xs.length : Int) h1 (by omega) (by omega)
  obtain ⟨x, hx⟩ := atI_ok (xs := xs) h4 h5
  have hmem : x ∈ xs := by
    unfold atI at hx
    cases h : ixN xs.length d with
    | none => rw [h] at hx; cases hx
    | some k =>
      rw [h] at hx
      exact List.mem_of_getElem? hx
  refine ⟨x, hmem, j1, j2, j3, j4, ?_, h3⟩
  have hi : xIo F__law_draw (xCons (xCall lenA (xCons (xVar 1) xNil)) xNil) [none, some (eL e xs)] (hd cs i1 i2 i3 i4) = some (.int d, hd cs j1 j2 j3 j4) := by
    exact io_1 (x := .int (xs.length : Int)) (ev_call (x := eL e xs) (o_lenL xs) rfl) h2
  have hs : g__law_any [none, some (eL e xs)] (hd cs i1 i2 i3 i4) = some (.rt (e x), [none, some (eL e xs)], hd cs j1 j2 j3 j4) := by
    refine sRet_run ?_
    unfold x2
    show (xIo _ _ _ _).bind _ = _
    rw [hi]
    show (ixD (eL e xs) (.int d)).map _ = _
    rw [o_ixL, hx]
    rfl
  show ((g__law_any [none, some (eL e xs)] (hd cs i1 i2 i3 i4)).bind _) = _
  rw [hs]
  rfl
/-! ### words dealt -/
/-- n places from the a-th on -/
def chk (p l m : Int) (ws ev : List (List Int)) (a n : Nat) : Bool := (List.range n).all fun i => decide (T_dealt_post p l m ws ev ((a + i : Nat) : Int) = some true)
theorem chk_at {p l m : Int} {ws ev : List (List Int)} {n K : Nat} (h : ∀ k, k < K → chk p l m ws ev (n * k) n = true) (hn : 0 < n) : ∀ i : Nat, i < n * K → T_dealt_post p l m ws ev (i : Int) = some true := fun i hi => by
  have hk : i / n < K := Nat.div_lt_of_lt_mul hi
  have h1 := List.all_eq_true.mp (h (i / n) hk) (i % n) (List.mem_range.mpr (Nat.mod_lt _ hn))
  have h2 := of_decide_eq_true h1
  rw [Nat.div_add_mod] at h2
  exact h2
theorem dealt_ok (p l m : Int) (ws ev : List (List Int)) (hw : T_dealt_words p l m = some ws) (he : T_all_rows p (m + 1) = some ev) (c1 : ws.length = ev.length) (c2 : T_least_gap p l m = some (l - m)) (c3 : 0 < ws.length) (c4 : ws.length < 1073741824)
    (c5 : ∀ i : Nat, i < ws.length → T_dealt_post p l m ws ev (i : Int) = some true) (cs : List Int) (i1 i2 i3 i4 : Int) (h1 : 0 ≤ i1) : ∃ j1 j2 j3 j4, F__law_are_dealt_right (hd cs i1 i2 i3 i4) [.int p, .int l, .int m] = some (.bl true, hd cs j1 j2 j3 j4) ∧ 0 ≤ j1 := by
  obtain ⟨d, j1, j2, j3, j4, g2, g3, g4, g5⟩ := draw_ok cs i1 i2 i3 i4 (ws.length : Int) h1 (by omega) (by omega)
  have c6 : T_dealt_post p l m ws ev d = some true := by
    have h8 := c5 d.toNat (by omega)
    have h7 : ((d.toNat : Nat) : Int) = d := by omega
    rw [h7] at h8
    exact h8
  have post := ok_T_dealt_post p l m ws ev d (hd cs j1 j2 j3 j4)
  rw [c6] at post
  have post : Option.map nrm _ = some (.rt (.bl true), [], hd cs j1 j2 j3 j4) := post
  refine ⟨j1, j2, j3, j4, ?_, g3⟩
  have main : (g__law_are_dealt_right [none, some (.int p), some (.int l), some (.int m), none, none, none, none, none, none, none, none, none, none, none] (hd cs i1 i2 i3 i4)).map nrm = some (.rt (.bl true), [], hd cs j1 j2 j3 j4) := by
    have s1 := ok_T_dealt_words p l m
    have s2 := ok_T_all_rows p (m + 1)
    have s3 := ok_T_least_gap p l m
    rw [hw] at s1
    rw [he] at s2
    rw [c2] at s3
    show (sSeq _ _ _ _).map nrm = _
    rw [seq_run (sAsg_run (env' := [none, some (.int p), some (.int l), some (.int m), some (eL (eT D.int) ws), none, none, none, none, none, none, none, none, none, none]) (d := eL (eT D.int) ws) (io' := hd cs i1 i2 i3 i4) (by
      show (F_dealt_words [.int p, .int l, .int m]).map _ = _
      rw [s1]; rfl) rfl)]
    rw [seq_run (sAsg_run (env' := [none, some (.int p), some (.int l), some (.int m), some (eL (eT D.int) ws), some (eL (eT D.int) ev), none, none, none, none, none, none, none, none, none]) (d := eL (eT D.int) ev) (io' := hd cs i1 i2 i3 i4) (by
      show (F_all_rows [.int p, .int (m + 1)]).map _ = _
      rw [s2]; rfl) rfl)]
    rw [seq_run (x := [none, some (.int p), some (.int l), some (.int m), some (eL (eT D.int) ws), some (eL (eT D.int) ev), none, none, none, none, none, none, none, none, none]) (io' := hd cs i1 i2 i3 i4) (by
      have e1 : bX (x2 neD (xCall lenA (xCons (xVar 4) xNil)) (xCall lenA (xCons (xVar 5) xNil))) [none, some (.int p), some (.int l), some (.int m), some (eL (eT D.int) ws), some (eL (eT D.int) ev), none, none, none, none, none, none, none, none, none] (hd cs i1 i2 i3 i4) = some (false, hd cs i1 i2 i3 i4) := by
        refine ev_bX (ev_2 (x := .int (ws.length : Int)) (y := .int (ev.length : Int)) ?_ (ev_call (x := eL (eT D.int) ws) (o_lenL ws) rfl) (ev_call (x := eL (eT D.int) ev) (o_lenL ev) rfl))
        rw [o_ne eq_int (by decide), c1]
        simp
      have e2 : bX (x2 neD (xCall F_least_gap (xCons (xVar 1) (xCons (xVar 2) (xCons (xVar 3) xNil)))) (x2 subI (xVar 2) (xVar 3))) [none, some (.int p), some (.int l), some (.int m), some (eL (eT D.int) ws), some (eL (eT D.int) ev), none, none, none, none, none, none, none, none, none] (hd cs i1 i2 i3 i4) = some (false, hd cs i1 i2 i3 i4) := by
        refine ev_bX (ev_2 (x := .int (l - m)) (y := .int (l - m)) ?_ ?_ (ev_2 (x := .int l) (y := .int m) rfl rfl rfl))
        · rw [o_ne eq_int (by decide)]
          simp
        · show (F_least_gap [.int p, .int l, .int m]).map _ = _
          rw [s3]; rfl
      rw [sIf_run (k := false) (io' := hd cs i1 i2 i3 i4) (by
        unfold bOr
        rw [e1]
        exact e2), if_neg Bool.false_ne_true]
      rfl)]
    rw [seq_run (sAsg_run (env' := [none, some (.int p), some (.int l), some (.int m), some (eL (eT D.int) ws), some (eL (eT D.int) ev), some (.int d), none, none, none, none, none, none, none, none]) (d := .int d) (io' := hd cs j1 j2 j3 j4) (by
      exact io_1 (x := .int (ws.length : Int)) (ev_call (x := eL (eT D.int) ws) (o_lenL ws) rfl) g2) rfl)]
    exact post
  show ((g__law_are_dealt_right [none, some (.int p), some (.int l), some (.int m), none, none, none, none, none, none, none, none, none, none, none] (hd cs i1 i2 i3 i4)).bind _) = _
  cases hg : g__law_are_dealt_right [none, some (.int p), some (.int l), some (.int m), none, none, none, none, none, none, none, none, none, none, none] (hd cs i1 i2 i3 i4) with
  | none => rw [hg] at main; cases main
  | some r =>
    rw [hg] at main
    obtain ⟨x, rfl⟩ := nrm_rt (Option.some.inj main)
    rfl
/-! ### the law -/
theorem hand_ok (ns : List Int) : ∃ cs i3, F__law_hand [.scr ns] = some (hd cs 0 0 i3 0) := by
  have cells : ∀ env io, env = [some (D.scr ns), none, none] → ∃ cs : List Int, xComp [2] (xSeq (xSl (xVar 0) oNone (oSome (xC (.int 63))))) (gN 2) bYes (x2 modI (xCall (op1 intD) (xCons (xCall (op1 absD) (xCons (xCall (op1 intD) (xCons (xVar 2) xNil)) xNil)) xNil)) (x2 powI (xC (.int 10)) (xC (.int 60)))) env io = some (.lst (cs.map D.int), io) := by
    intro env io henv
    subst henv
    have hsl : xSl (xVar 0) oNone (oSome (xC (.int 63))) [some (D.scr ns), none, none] io = some (.lst ((cutA ns none (some 63)).map D.int), io) := by
      show some (D.lst (cutD (ns.map D.int) none (some 63)), io) = _
      rw [cutD_map]
    have hsz : szL (cutA ns none (some 63)).length = true := by
      unfold szL
      refine Nat.ble_eq_true_of_le (m := 16777216) ?_
      unfold cutA
      have : HT.sIx ns.length ns.length (some 63) ≤ 63 := by
        show (if (63 : Int) < 0 then ((63 : Int) + (ns.length : Int)).toNat else min (63 : Int).toNat ns.length) ≤ 63
        rw [if_neg (by decide)]
        exact Nat.min_le_left _ _
      rw [List.length_take]
      omega
    have hsrc : xSeq (xSl (xVar 0) oNone (oSome (xC (.int 63)))) [some (D.scr ns), none, none] io = some ((cutA ns none (some 63)).map D.int, io) := by
      unfold xSeq
      rw [hsl]
      show (if szL ((cutA ns none (some 63)).map D.int).length then _ else none) = _
      rw [List.length_map, hsz]
      rfl
    have run := t_compP (env := [some (D.scr ns), none, none]) (io := io) (vs := [2]) (src := xSeq (xSl (xVar 0) oNone (oSome (xC (.int 63))))) (b := gN 2) (e1 := D.int) (e2 := D.int)
      (x := x2 modI (xCall (op1 intD) (xCons (xCall (op1 absD) (xCons (xCall (op1 intD) (xCons (xVar 2) xNil)) xNil)) xNil)) (x2 powI (xC (.int 10)) (xC (.int 60))))
      (fun a => [some (D.scr ns), none, some (.int a)]) (h := fun a => (if a < 0 then -a else a) % (10 ^ 60 : Int)) (s := some (cutA ns none (some 63))) hsrc (fun _ => rfl) (fun a => by
        refine ev_2 (x := .int (if a < 0 then -a else a)) (y := .int (10 ^ 60)) (modI_p (by decide)) ?_ ?_
        · exact ev_call (x := .int (if a < 0 then -a else a)) rfl (ev_call (x := .int a) rfl (ev_call (x := .int a) rfl rfl))
        · refine ev_2 (x := .int 10) (y := .int 60) ?_ ev_c ev_c
          rw [o_pow]
          unfold powO
          rw [if_pos (by decide)]
          rfl)
    exact ⟨_, run⟩
  obtain ⟨cs, hcs⟩ := cells _ .non rfl
  refine ⟨cs, 236355 + 7 * (cs.length : Int), ?_⟩
  have h1 : g__law_hand [some (D.scr ns), none, none] .non = some (.nx, [some (D.scr ns), some (.lst (cs.map D.int)), none], .non) := sAsg_run hcs rfl
  have h2 : r__law_hand [some (D.scr ns), some (.lst (cs.map D.int)), none] .non = some (hd cs 0 0 (236355 + 7 * (cs.length : Int)) 0, .non) := by
    have h3 : x2 addA (xC (.int 236355)) (x2 mulA (xC (.int 7)) (xCall lenA (xCons (xVar 1) xNil))) [some (D.scr ns), some (.lst (cs.map D.int)), none] .non = some (.int (236355 + 7 * (cs.length : Int)), .non) :=
      ev_2 rfl ev_c (ev_2 (mulA_l (by decide)) ev_c (ev_call (x := eL D.int cs) (o_lenL cs) rfl))
    exact ev_lst (el_cons (x := .lst (cs.map D.int)) rfl (el_cons ev_c (el_cons ev_c (el_cons h3 (el_cons ev_c el_nil)))))
  show ((g__law_hand [some (D.scr ns), none, none] .non).bind _) = _
  rw [h1]
  show ((r__law_hand [some (D.scr ns), some (.lst (cs.map D.int)), none] .non).map _) = _
  rw [h2]
  rfl
end My

namespace My
open PySem PySem.Spec PyProof.Rows L2 PL
/-! ### counting by distances, fast -/
/-- in how many places two words differ -/
def distI (x a : List Int) : Nat := ((x.zip a).filter fun q => !decide (q.1 = q.2)).length
def bump (s : List Int) (j : Nat) : List Int := match s[j]? with
  | some v => s.set j (v + 1)
  | none => s
theorem bump_len (s : List Int) (j : Nat) : (bump s j).length = s.length := by
  unfold bump
  split
  · rw [List.length_set]
  · rfl
theorem bump_get (s : List Int) (j k : Nat) : (bump s j)[k]? = (s[k]?).map fun v => if j = k then v + 1 else v := by
  unfold bump
  split
  · rename_i v hv
    have hlt : j < s.length := (List.getElem?_eq_some_iff.mp hv).1
    by_cases h : j = k
    · subst h
      rw [List.getElem?_set_self hlt, hv]
      simp
    · rw [List.getElem?_set_ne h]
      cases s[k]? <;> simp [h]
  · rename_i hv
    by_cases h : j = k
    · subst h
      rw [hv]; rfl
    · cases s[k]? <;> simp [h]
/-- how many are k -/
noncomputable def cntN (k : Nat) (ds : List Nat) : Nat := List.rec (motive := fun _ => Nat) 0 (fun d _ ih => Nat.add (Bool.rec (motive := fun _ => Nat) 0 1 (Nat.beq d k)) ih) ds
theorem cntN_nil (k : Nat) : cntN k [] = 0 := rfl
theorem cntN_cons (k d : Nat) (ds : List Nat) : cntN k (d :: ds) = (bif Nat.beq d k then 1 else 0) + cntN k ds := by
  show Nat.add (Bool.rec (motive := fun _ => Nat) 0 1 (Nat.beq d k)) (cntN k ds) = _
  cases Nat.beq d k <;> rfl
theorem bumps_len : ∀ (ds : List Nat) (s : List Int), (ds.foldl bump s).length = s.length
  | [], _ => rfl
  | d :: ds, s => by
    show (ds.foldl bump (bump s d)).length = _
    rw [bumps_len ds, bump_len]
theorem bumps_get : ∀ (ds : List Nat) (s : List Int) (k : Nat), (ds.foldl bump s)[k]? = (s[k]?).map fun v => v + (cntN k ds : Int)
  | [], s, k => by
    show s[k]? = _
    rw [cntN_nil]
    cases s[k]? <;> simp
  | d :: ds, s, k => by
    show (ds.foldl bump (bump s d))[k]? = _
    rw [bumps_get ds, bump_get]
    cases s[k]? with
    | none => rfl
    | some v =>
      show some ((if d = k then v + 1 else v) + (cntN k ds : Int)) = some (v + (cntN k (d :: ds) : Int))
      rw [cntN_cons]
      by_cases h : d = k
      · have hb : Nat.beq d k = true := by rw [h, Nat.beq_refl]
        rw [if_pos h, hb]
        simp
        omega
      · have hb : Nat.beq d k = false := by
          cases hx : Nat.beq d k with
          | false => rfl
          | true => exact absurd (Nat.eq_of_beq_eq_true hx) h
        rw [if_neg h, hb]
        simp
noncomputable def dstN (x : List Nat) : List Nat → Nat := List.rec (motive := fun _ => List Nat → Nat) (fun _ => 0) (fun h _ ih a => List.rec (motive := fun _ => Nat) 0 (fun b bs _ => Nat.add (Bool.rec (motive := fun _ => Nat) 1 0 (Nat.beq h b)) (ih bs)) a) x
theorem dstN_nil (a : List Nat) : dstN [] a = 0 := rfl
theorem dstN_nil2 (x : Nat) (xs : List Nat) : dstN (x :: xs) [] = 0 := rfl
theorem dstN_cons (x a : Nat) (xs as : List Nat) : dstN (x :: xs) (a :: as) = (bif Nat.beq x a then 0 else 1) + dstN xs as := by
  show Nat.add (Bool.rec (motive := fun _ => Nat) 1 0 (Nat.beq x a)) (dstN xs as) = _
  cases Nat.beq x a <;> rfl
theorem dist_N : ∀ xs as : List Nat, distI (xs.map Int.ofNat) (as.map Int.ofNat) = dstN xs as
  | [], _ => rfl
  | _ :: _, [] => by unfold distI dstN; rfl
  | x :: xs, a :: as => by
    have ih := dist_N xs as
    unfold distI at ih ⊢
    rw [List.map_cons, List.map_cons, List.zip_cons_cons, List.filter_cons, dstN_cons, ← ih]
    cases hx : Nat.beq x a with
    | true =>
      have := Nat.eq_of_beq_eq_true hx
      subst this
      simp
    | false =>
      have hne : ¬ x = a := fun z => by
        rw [z, Nat.beq_refl] at hx
        cases hx
      have hne2 : decide ((Int.ofNat x, Int.ofNat a).1 = (Int.ofNat x, Int.ofNat a).2) = false := decide_eq_false fun z => hne (Int.ofNat.inj z)
      rw [hne2]
      show (List.length _) + 1 = 1 + _
      omega
/-- all counts are as told -/
noncomputable def cntsOk (wts : List Nat) (ds : List Nat) (n : Nat) : Bool := Nat.rec (motive := fun _ => Bool) true (fun k ih => Bool.rec (motive := fun _ => Bool) false ih (Nat.beq (cntN k ds) (wts.getD k 0))) n
theorem cntsOk_succ (wts ds : List Nat) (k : Nat) : cntsOk wts ds (k + 1) = (Nat.beq (cntN k ds) (wts.getD k 0) && cntsOk wts ds k) := by
  show Bool.rec (motive := fun _ => Bool) false (cntsOk wts ds k) (Nat.beq (cntN k ds) (wts.getD k 0)) = _
  cases Nat.beq (cntN k ds) (wts.getD k 0) <;> rfl
theorem cntsOk_at {wts ds : List Nat} : ∀ {n : Nat}, cntsOk wts ds n = true → ∀ k, k < n → cntN k ds = wts.getD k 0
  | 0, _, _, hk => absurd hk (Nat.not_lt_zero _)
  | n + 1, h, k, hk => by
    rw [cntsOk_succ, Bool.and_eq_true] at h
    by_cases e : k = n
    · subst e; exact Nat.eq_of_beq_eq_true h.1
    · exact cntsOk_at h.2 k (by omega)
theorem counts_eq {wts ds : List Nat} {n : Nat} (hl : wts.length = n) (h : cntsOk wts ds n = true) : ds.foldl bump (List.replicate n 0) = wts.map Int.ofNat := by
  apply List.ext_getElem?
  intro k
  rw [bumps_get, List.getElem?_map, List.getElem?_replicate]
  by_cases hk : k < n
  · rw [if_pos hk, List.getElem?_eq_getElem (by omega)]
    have h1 := cntsOk_at h k hk
    rw [List.getD_eq_getElem?_getD, List.getElem?_eq_getElem (by omega)] at h1
    show some ((0 : Int) + (cntN k ds : Int)) = some (Int.ofNat wts[k])
    rw [h1, Int.zero_add]
    rfl
  · rw [if_neg hk, List.getElem?_eq_none (by omega)]
    rfl
/-! ### the counting loop -/
abbrev stepD (ws : List (List Int)) (at0 : Int) : List Int → List Int → Option (List Int) := (fun (s2 : (List Int)) (x3 : (List Int)) => (((((some x3).bind fun a5 => ((atI ws at0).bind fun a6 => (zipO a5 a6))).map fun as => (as.filter (fun x7 : (Int × Int) => (!decide (x7.1 = x7.2)))).map (fun x7 : (Int × Int) => (1 : Int))).bind fun a8 => (some ((a8.length : Nat) : Int))).bind fun far_9 => ((((atI s2 far_9).bind fun a10 => ((some (1 : Int)).bind fun a11 => (some (a10 + a11)))).bind fun a13 => ((some far_9).bind fun a14 => (setO s2 a14 a13))).bind fun counts_12 => (some counts_12))))
theorem ixN_nat {n j : Nat} (h : j < n) : ixN n (j : Int) = some j := by
  unfold ixN
  rw [if_pos (by omega), if_pos (by omega)]
  simp
theorem step_ok {ws : List (List Int)} {at0 : Int} {a : List Int} (ha : atI ws at0 = some a) (s x : List Int) (hz : szL x.length = true) (hj : distI x a < s.length) : stepD ws at0 s x = some (bump s (distI x a)) := by
  show (((((some x).bind fun a5 => ((atI ws at0).bind fun a6 => (zipO a5 a6))).map _).bind _).bind _) = _
  rw [ha]
  show ((((zipO x a).map _).bind _).bind _) = _
  rw [show zipO x a = some (x.zip a) from by unfold zipO; rw [hz]; rfl]
  show (((atI s (((((x.zip a).filter fun q => !decide (q.1 = q.2)).map fun _ => (1 : Int)).length : Nat) : Int)).bind _).bind _).bind _ = _
  rw [List.length_map]
  show (((atI s ((distI x a : Nat) : Int)).bind _).bind _).bind _ = _
  have hv : s[distI x a]? = some s[distI x a] := List.getElem?_eq_getElem hj
  rw [show atI s ((distI x a : Nat) : Int) = some s[distI x a] from by unfold atI; rw [ixN_nat hj]; exact hv]
  show (setO s ((distI x a : Nat) : Int) (s[distI x a] + 1)).bind _ = _
  rw [show setO s ((distI x a : Nat) : Int) (s[distI x a] + 1) = some (s.set (distI x a) (s[distI x a] + 1)) from by unfold setO; rw [ixN_nat hj]; rfl]
  unfold bump
  rw [hv]
  rfl
theorem steps_ok {ws : List (List Int)} {at0 : Int} {a : List Int} (ha : atI ws at0 = some a) : ∀ (xs : List (List Int)) (s : List Int), (∀ x ∈ xs, szL x.length = true ∧ distI x a < s.length) → foldO (stepD ws at0) s xs = some ((xs.map fun x => distI x a).foldl bump s)
  | [], s, _ => rfl
  | x :: xs, s, h => by
    obtain ⟨h1, h2⟩ := h x List.mem_cons_self
    unfold foldO
    rw [step_ok ha s x h1 h2]
    show foldO (stepD ws at0) (bump s (distI x a)) xs = _
    rw [steps_ok ha xs (bump s (distI x a)) fun y hy => by rw [bump_len]; exact h y (List.mem_cons_of_mem _ hy)]
    rfl
/-- the whole behind the draw, by the counts and the rest -/
theorem post_ok {p l m : Int} {ws ev : List (List Int)} {at0 : Int} {a : List Int} {wts : List Int} {n : Nat} (hn : repO ([(0 : Int)] : List Int) (l + 1) = some (List.replicate n 0)) (hsz : szO ws = some ws) (ha : atI ws at0 = some a) (hw : T__law_weights p l m = some wts)
    (hd : ∀ x ∈ ws, szL x.length = true ∧ distI x a < n) (hc : (ws.map fun x => distI x a).foldl bump (List.replicate n 0) = wts) (hr : T_dealt_rest p l m ws ev at0 = some true) : T_dealt_post p l m ws ev at0 = some true := by
  unfold T_dealt_rest at hr
  unfold T_dealt_post
  rw [hn]
  show ((szO ws).bind fun as => foldO (stepD ws at0) (List.replicate n 0) as).bind _ = _
  rw [hsz]
  show (foldO (stepD ws at0) (List.replicate n 0) ws).bind _ = _
  rw [steps_ok ha ws _ (by rw [List.length_replicate]; exact hd), hc]
  show orR (((some wts).bind fun a15 => (T__law_weights p l m).bind fun a16 => some (!decide (a15 = a16))).bind _) _ = _
  rw [hw]
  show orR ((some (!decide (wts = wts))).bind _) _ = _
  rw [decide_eq_true (rfl : wts = wts)]
  exact hr
/-- words as Nat -/
def wI (W : List (List Nat)) : List (List Int) := W.map fun w => w.map Int.ofNat
noncomputable def dsts (a : List Nat) (W : List (List Nat)) : List Nat := List.rec (motive := fun _ => List Nat) [] (fun w _ ih => dstN w a :: ih) W
theorem dsts_map (a : List Nat) : ∀ W : List (List Nat), dsts a W = W.map fun w => dstN w a
  | [] => rfl
  | w :: W => by
    show dstN w a :: dsts a W = _
    rw [dsts_map a W]
    rfl
noncomputable def codeOk (W : List (List Nat)) (wts : List Nat) (n : Nat) (as : List (List Nat)) : Bool := List.rec (motive := fun _ => Bool) true (fun a _ ih => Bool.rec (motive := fun _ => Bool) false ih (cntsOk wts (dsts a W) n)) as
theorem codeOk_cons (W : List (List Nat)) (wts : List Nat) (n : Nat) (a : List Nat) (as : List (List Nat)) : codeOk W wts n (a :: as) = (cntsOk wts (W.map fun w => dstN w a) n && codeOk W wts n as) := by
  show Bool.rec (motive := fun _ => Bool) false (codeOk W wts n as) (cntsOk wts (dsts a W) n) = _
  rw [dsts_map]
  cases cntsOk wts (W.map fun w => dstN w a) n <;> rfl
theorem codeOk_at {W : List (List Nat)} {wts : List Nat} {n : Nat} : ∀ {as : List (List Nat)}, codeOk W wts n as = true → ∀ a ∈ as, cntsOk wts (W.map fun w => dstN w a) n = true
  | [], _, _, ha => by cases ha
  | b :: as, h, a, ha => by
    rw [codeOk_cons, Bool.and_eq_true] at h
    rcases List.mem_cons.mp ha with z | z
    · rw [z]; exact h.1
    · exact codeOk_at h.2 a z
theorem dst_le : ∀ x a : List Nat, dstN x a ≤ x.length
  | [], _ => Nat.zero_le _
  | _ :: _, [] => Nat.zero_le _
  | x :: xs, a :: as => by
    rw [dstN_cons]
    have := dst_le xs as
    rw [List.length_cons]
    cases Nat.beq x a <;> simp <;> omega
/-- n places from the a-th on: the rest -/
def chkR (p l m : Int) (ws ev : List (List Int)) (a n : Nat) : Bool := (List.range n).all fun i => decide (T_dealt_rest p l m ws ev ((a + i : Nat) : Int) = some true)
theorem chkR_at {p l m : Int} {ws ev : List (List Int)} {n K : Nat} (h : ∀ k, k < K → chkR p l m ws ev (n * k) n = true) (hn : 0 < n) : ∀ i : Nat, i < n * K → T_dealt_rest p l m ws ev (i : Int) = some true := fun i hi => by
  have hk : i / n < K := Nat.div_lt_of_lt_mul hi
  have h1 := List.all_eq_true.mp (h (i / n) hk) (i % n) (List.mem_range.mpr (Nat.mod_lt _ hn))
  have h2 := of_decide_eq_true h1
  rw [Nat.div_add_mod] at h2
  exact h2
theorem posts_ok {p m : Int} {l : Nat} {W : List (List Nat)} {ev : List (List Int)} {wts : List Nat} (hn : repO ([(0 : Int)] : List Int) ((l : Int) + 1) = some (List.replicate (l + 1) 0)) (hW : Nat.ble W.length 16777216 = true) (hl : (W.all fun w => Nat.ble w.length l) = true) (hl2 : Nat.ble l 1000 = true) (hw : T__law_weights p l m = some (wts.map Int.ofNat)) (hwl : wts.length = l + 1)
    (hc : codeOk W wts (l + 1) W = true) (hr : ∀ i : Nat, i < W.length → T_dealt_rest p l m (wI W) ev (i : Int) = some true) : ∀ i : Nat, i < W.length → T_dealt_post p l m (wI W) ev (i : Int) = some true := fun i hi => by
  have hlen : ∀ w ∈ W, w.length ≤ l := fun w hw => Nat.le_of_ble_eq_true (List.all_eq_true.mp hl w hw)
  have h1000 := Nat.le_of_ble_eq_true hl2
  have ha : atI (wI W) (i : Int) = some (W[i].map Int.ofNat) := by
    unfold atI
    rw [ixN_nat (by unfold wI; rw [List.length_map]; exact hi)]
    show (wI W)[i]? = _
    unfold wI
    rw [List.getElem?_map, List.getElem?_eq_getElem hi]
    rfl
  refine post_ok hn ?_ ha hw (fun x hx => ?_) ?_ (hr i hi)
  · unfold szO szL wI
    rw [List.length_map, hW]
    rfl
  · obtain ⟨w, hw, rfl⟩ := List.mem_map.mp hx
    refine ⟨?_, ?_⟩
    · rw [List.length_map]
      exact Nat.ble_eq_true_of_le (m := 16777216) (by have := hlen w hw; omega)
    · rw [dist_N]
      exact Nat.lt_succ_of_le (Nat.le_trans (dst_le _ _) (hlen w hw))
  · have e : ((wI W).map fun x => distI x (W[i].map Int.ofNat)) = W.map fun w => dstN w W[i] := by
      unfold wI
      rw [List.map_map]
      exact List.map_congr_left fun w _ => dist_N w W[i]
    rw [e]
    exact counts_eq hwl (codeOk_at hc _ (List.getElem_mem hi))
theorem codeOk_of {W : List (List Nat)} {wts : List Nat} {n : Nat} : ∀ {as : List (List Nat)}, (∀ a ∈ as, cntsOk wts (W.map fun w => dstN w a) n = true) → codeOk W wts n as = true
  | [], _ => rfl
  | a :: as, h => by
    rw [codeOk_cons, h a List.mem_cons_self, codeOk_of fun b hb => h b (List.mem_cons_of_mem _ hb)]
    rfl
theorem codeOk_app {W : List (List Nat)} {wts : List Nat} {n : Nat} {as bs : List (List Nat)} (h : codeOk W wts n as = true) (h2 : codeOk W wts n bs = true) : codeOk W wts n (as ++ bs) = true := codeOk_of fun a ha => by
  rcases List.mem_append.mp ha with z | z
  · exact codeOk_at h a z
  · exact codeOk_at h2 a z
end My

namespace My
open PySem PySem.Spec PyProof.Rows L2 PL
def W531 : List (List Nat) := [[0, 0, 0], [1, 2, 3], [2, 4, 1], [3, 1, 4], [4, 3, 2], [1, 1, 1], [2, 3, 4], [3, 0, 2], [4, 2, 0], [0, 4, 3], [2, 2, 2], [3, 4, 0], [4, 1, 3], [0, 3, 1], [1, 0, 4], [3, 3, 3], [4, 0, 1], [0, 2, 4], [1, 4, 2], [2, 1, 0], [4, 4, 4], [0, 1, 2], [1, 3, 0], [2, 0, 3], [3, 2, 1]]
def V531 : List (List Nat) := [[0, 0], [0, 1], [0, 2], [0, 3], [0, 4], [1, 0], [1, 1], [1, 2], [1, 3], [1, 4], [2, 0], [2, 1], [2, 2], [2, 3], [2, 4], [3, 0], [3, 1], [3, 2], [3, 3], [3, 4], [4, 0], [4, 1], [4, 2], [4, 3], [4, 4]]
def Z531 : List Nat := [1, 0, 12, 12]
theorem w531 : T_dealt_words 5 3 1 = some (wI W531) := by decide +kernel
theorem v531 : T_all_rows 5 (1 + 1) = some (wI V531) := by decide +kernel
theorem g531 : T_least_gap 5 3 1 = some (3 - 1) := by decide +kernel
theorem z531 : T__law_weights 5 3 1 = some (Z531.map Int.ofNat) := by decide +kernel
theorem c531 : codeOk W531 Z531 (3 + 1) W531 = true := by decide +kernel
theorem k531_0 : chkR 5 3 1 (wI W531) (wI V531) (25 * 0) 25 = true := by decide +kernel
theorem K531 : ∀ k, k < 1 → chkR 5 3 1 (wI W531) (wI V531) (25 * k) 25 = true := fun k hk => match k, hk with
  | 0, _ => k531_0
  | k + 1, hk => absurd hk (by omega)
theorem D531 (cs : List Int) (i1 i2 i3 i4 : Int) (h1 : 0 ≤ i1) : ∃ j1 j2 j3 j4, F__law_are_dealt_right (hd cs i1 i2 i3 i4) [.int 5, .int 3, .int 1] = some (.bl true, hd cs j1 j2 j3 j4) ∧ 0 ≤ j1 :=
  dealt_ok 5 3 1 (wI W531) (wI V531) w531 v531 (by decide +kernel) g531 (by decide +kernel) (by decide +kernel) (fun i hi => posts_ok (l := 3) (W := W531) (wts := Z531) (by decide +kernel) (by decide +kernel) (by decide +kernel) (by decide +kernel) z531 (by decide +kernel) c531 (fun i hi => chkR_at K531 (by decide) i (Nat.lt_of_lt_of_eq hi (by decide +kernel))) i (Nat.lt_of_lt_of_eq hi (by decide +kernel))) cs i1 i2 i3 i4 h1
def W541 : List (List Nat) := [[0, 0, 0, 0], [1, 2, 3, 4], [2, 4, 1, 3], [3, 1, 4, 2], [4, 3, 2, 1], [1, 1, 1, 1], [2, 3, 4, 0], [3, 0, 2, 4], [4, 2, 0, 3], [0, 4, 3, 2], [2, 2, 2, 2], [3, 4, 0, 1], [4, 1, 3, 0], [0, 3, 1, 4], [1, 0, 4, 3], [3, 3, 3, 3], [4, 0, 1, 2], [0, 2, 4, 1], [1, 4, 2, 0], [2, 1, 0, 4], [4, 4, 4, 4], [0, 1, 2, 3], [1, 3, 0, 2], [2, 0, 3, 1], [3, 2, 1, 0]]
def V541 : List (List Nat) := [[0, 0], [0, 1], [0, 2], [0, 3], [0, 4], [1, 0], [1, 1], [1, 2], [1, 3], [1, 4], [2, 0], [2, 1], [2, 2], [2, 3], [2, 4], [3, 0], [3, 1], [3, 2], [3, 3], [3, 4], [4, 0], [4, 1], [4, 2], [4, 3], [4, 4]]
def Z541 : List Nat := [1, 0, 0, 16, 8]
theorem w541 : T_dealt_words 5 4 1 = some (wI W541) := by decide +kernel
theorem v541 : T_all_rows 5 (1 + 1) = some (wI V541) := by decide +kernel
theorem g541 : T_least_gap 5 4 1 = some (4 - 1) := by decide +kernel
theorem z541 : T__law_weights 5 4 1 = some (Z541.map Int.ofNat) := by decide +kernel
theorem c541 : codeOk W541 Z541 (4 + 1) W541 = true := by decide +kernel
theorem k541_0 : chkR 5 4 1 (wI W541) (wI V541) (25 * 0) 25 = true := by decide +kernel
theorem K541 : ∀ k, k < 1 → chkR 5 4 1 (wI W541) (wI V541) (25 * k) 25 = true := fun k hk => match k, hk with
  | 0, _ => k541_0
  | k + 1, hk => absurd hk (by omega)
theorem D541 (cs : List Int) (i1 i2 i3 i4 : Int) (h1 : 0 ≤ i1) : ∃ j1 j2 j3 j4, F__law_are_dealt_right (hd cs i1 i2 i3 i4) [.int 5, .int 4, .int 1] = some (.bl true, hd cs j1 j2 j3 j4) ∧ 0 ≤ j1 :=
  dealt_ok 5 4 1 (wI W541) (wI V541) w541 v541 (by decide +kernel) g541 (by decide +kernel) (by decide +kernel) (fun i hi => posts_ok (l := 4) (W := W541) (wts := Z541) (by decide +kernel) (by decide +kernel) (by decide +kernel) (by decide +kernel) z541 (by decide +kernel) c541 (fun i hi => chkR_at K541 (by decide) i (Nat.lt_of_lt_of_eq hi (by decide +kernel))) i (Nat.lt_of_lt_of_eq hi (by decide +kernel))) cs i1 i2 i3 i4 h1
def W542 : List (List Nat) := [[0, 0, 0, 0], [1, 4, 4, 1], [2, 3, 3, 2], [3, 2, 2, 3], [4, 1, 1, 4], [1, 2, 3, 4], [2, 1, 2, 0], [3, 0, 1, 1], [4, 4, 0, 2], [0, 3, 4, 3], [2, 4, 1, 3], [3, 3, 0, 4], [4, 2, 4, 0], [0, 1, 3, 1], [1, 0, 2, 2], [3, 1, 4, 2], [4, 0, 3, 3], [0, 4, 2, 4], [1, 3, 1, 0], [2, 2, 0, 1], [4, 3, 2, 1], [0, 2, 1, 2], [1, 1, 0, 3], [2, 0, 4, 4], [3, 4, 3, 0], [1, 1, 1, 1], [2, 0, 0, 2], [3, 4, 4, 3], [4, 3, 3, 4], [0, 2, 2, 0], [2, 3, 4, 0], [3, 2, 3, 1], [4, 1, 2, 2], [0, 0, 1, 3], [1, 4, 0, 4], [3, 0, 2, 4], [4, 4, 1, 0], [0, 3, 0, 1], [1, 2, 4, 2], [2, 1, 3, 3], [4, 2, 0, 3], [0, 1, 4, 4], [1, 0, 3, 0], [2, 4, 2, 1], [3, 3, 1, 2], [0, 4, 3, 2], [1, 3, 2, 3], [2, 2, 1, 4], [3, 1, 0, 0], [4, 0, 4, 1], [2, 2, 2, 2], [3, 1, 1, 3], [4, 0, 0, 4], [0, 4, 4, 0], [1, 3, 3, 1], [3, 4, 0, 1], [4, 3, 4, 2], [0, 2, 3, 3], [1, 1, 2, 4], [2, 0, 1, 0], [4, 1, 3, 0], [0, 0, 2, 1], [1, 4, 1, 2], [2, 3, 0, 3], [3, 2, 4, 4], [0, 3, 1, 4], [1, 2, 0, 0], [2, 1, 4, 1], [3, 0, 3, 2], [4, 4, 2, 3], [1, 0, 4, 3], [2, 4, 3, 4], [3, 3, 2, 0], [4, 2, 1, 1], [0, 1, 0, 2], [3, 3, 3, 3], [4, 2, 2, 4], [0, 1, 1, 0], [1, 0, 0, 1], [2, 4, 4, 2], [4, 0, 1, 2], [0, 4, 0, 3], [1, 3, 4, 4], [2, 2, 3, 0], [3, 1, 2, 1], [0, 2, 4, 1], [1, 1, 3, 2], [2, 0, 2, 3], [3, 4, 1, 4], [4, 3, 0, 0], [1, 4, 2, 0], [2, 3, 1, 1], [3, 2, 0, 2], [4, 1, 4, 3], [0, 0, 3, 4], [2, 1, 0, 4], [3, 0, 4, 0], [4, 4, 3, 1], [0, 3, 2, 2], [1, 2, 1, 3], [4, 4, 4, 4], [0, 3, 3, 0], [1, 2, 2, 1], [2, 1, 1, 2], [3, 0, 0, 3], [0, 1, 2, 3], [1, 0, 1, 4], [2, 4, 0, 0], [3, 3, 4, 1], [4, 2, 3, 2], [1, 3, 0, 2], [2, 2, 4, 3], [3, 1, 3, 4], [4, 0, 2, 0], [0, 4, 1, 1], [2, 0, 3, 1], [3, 4, 2, 2], [4, 3, 1, 3], [0, 2, 0, 4], [1, 1, 4, 0], [3, 2, 1, 0], [4, 1, 0, 1], [0, 0, 4, 2], [1, 4, 3, 3], [2, 3, 2, 4]]
def V542 : List (List Nat) := [[0, 0, 0], [0, 0, 1], [0, 0, 2], [0, 0, 3], [0, 0, 4], [0, 1, 0], [0, 1, 1], [0, 1, 2], [0, 1, 3], [0, 1, 4], [0, 2, 0], [0, 2, 1], [0, 2, 2], [0, 2, 3], [0, 2, 4], [0, 3, 0], [0, 3, 1], [0, 3, 2], [0, 3, 3], [0, 3, 4], [0, 4, 0], [0, 4, 1], [0, 4, 2], [0, 4, 3], [0, 4, 4], [1, 0, 0], [1, 0, 1], [1, 0, 2], [1, 0, 3], [1, 0, 4], [1, 1, 0], [1, 1, 1], [1, 1, 2], [1, 1, 3], [1, 1, 4], [1, 2, 0], [1, 2, 1], [1, 2, 2], [1, 2, 3], [1, 2, 4], [1, 3, 0], [1, 3, 1], [1, 3, 2], [1, 3, 3], [1, 3, 4], [1, 4, 0], [1, 4, 1], [1, 4, 2], [1, 4, 3], [1, 4, 4], [2, 0, 0], [2, 0, 1], [2, 0, 2], [2, 0, 3], [2, 0, 4], [2, 1, 0], [2, 1, 1], [2, 1, 2], [2, 1, 3], [2, 1, 4], [2, 2, 0], [2, 2, 1], [2, 2, 2], [2, 2, 3], [2, 2, 4], [2, 3, 0], [2, 3, 1], [2, 3, 2], [2, 3, 3], [2, 3, 4], [2, 4, 0], [2, 4, 1], [2, 4, 2], [2, 4, 3], [2, 4, 4], [3, 0, 0], [3, 0, 1], [3, 0, 2], [3, 0, 3], [3, 0, 4], [3, 1, 0], [3, 1, 1], [3, 1, 2], [3, 1, 3], [3, 1, 4], [3, 2, 0], [3, 2, 1], [3, 2, 2], [3, 2, 3], [3, 2, 4], [3, 3, 0], [3, 3, 1], [3, 3, 2], [3, 3, 3], [3, 3, 4], [3, 4, 0], [3, 4, 1], [3, 4, 2], [3, 4, 3], [3, 4, 4], [4, 0, 0], [4, 0, 1], [4, 0, 2], [4, 0, 3], [4, 0, 4], [4, 1, 0], [4, 1, 1], [4, 1, 2], [4, 1, 3], [4, 1, 4], [4, 2, 0], [4, 2, 1], [4, 2, 2], [4, 2, 3], [4, 2, 4], [4, 3, 0], [4, 3, 1], [4, 3, 2], [4, 3, 3], [4, 3, 4], [4, 4, 0], [4, 4, 1], [4, 4, 2], [4, 4, 3], [4, 4, 4]]
def Z542 : List Nat := [1, 0, 24, 48, 52]
theorem w542 : T_dealt_words 5 4 2 = some (wI W542) := by decide +kernel
theorem v542 : T_all_rows 5 (2 + 1) = some (wI V542) := by decide +kernel
theorem g542 : T_least_gap 5 4 2 = some (4 - 2) := by decide +kernel
theorem z542 : T__law_weights 5 4 2 = some (Z542.map Int.ofNat) := by decide +kernel
theorem c542 : codeOk W542 Z542 (4 + 1) W542 = true := by decide +kernel
theorem k542_0 : chkR 5 4 2 (wI W542) (wI V542) (25 * 0) 25 = true := by decide +kernel
theorem k542_1 : chkR 5 4 2 (wI W542) (wI V542) (25 * 1) 25 = true := by decide +kernel
theorem k542_2 : chkR 5 4 2 (wI W542) (wI V542) (25 * 2) 25 = true := by decide +kernel
theorem k542_3 : chkR 5 4 2 (wI W542) (wI V542) (25 * 3) 25 = true := by decide +kernel
theorem k542_4 : chkR 5 4 2 (wI W542) (wI V542) (25 * 4) 25 = true := by decide +kernel
theorem K542 : ∀ k, k < 5 → chkR 5 4 2 (wI W542) (wI V542) (25 * k) 25 = true := fun k hk => match k, hk with
  | 0, _ => k542_0
  | 1, _ => k542_1
  | 2, _ => k542_2
  | 3, _ => k542_3
  | 4, _ => k542_4
  | k + 5, hk => absurd hk (by omega)
theorem D542 (cs : List Int) (i1 i2 i3 i4 : Int) (h1 : 0 ≤ i1) : ∃ j1 j2 j3 j4, F__law_are_dealt_right (hd cs i1 i2 i3 i4) [.int 5, .int 4, .int 2] = some (.bl true, hd cs j1 j2 j3 j4) ∧ 0 ≤ j1 :=
  dealt_ok 5 4 2 (wI W542) (wI V542) w542 v542 (by decide +kernel) g542 (by decide +kernel) (by decide +kernel) (fun i hi => posts_ok (l := 4) (W := W542) (wts := Z542) (by decide +kernel) (by decide +kernel) (by decide +kernel) (by decide +kernel) z542 (by decide +kernel) c542 (fun i hi => chkR_at K542 (by decide) i (Nat.lt_of_lt_of_eq hi (by decide +kernel))) i (Nat.lt_of_lt_of_eq hi (by decide +kernel))) cs i1 i2 i3 i4 h1
def W741 : List (List Nat) := [[0, 0, 0, 0], [1, 2, 3, 4], [2, 4, 6, 1], [3, 6, 2, 5], [4, 1, 5, 2], [5, 3, 1, 6], [6, 5, 4, 3], [1, 1, 1, 1], [2, 3, 4, 5], [3, 5, 0, 2], [4, 0, 3, 6], [5, 2, 6, 3], [6, 4, 2, 0], [0, 6, 5, 4], [2, 2, 2, 2], [3, 4, 5, 6], [4, 6, 1, 3], [5, 1, 4, 0], [6, 3, 0, 4], [0, 5, 3, 1], [1, 0, 6, 5], [3, 3, 3, 3], [4, 5, 6, 0], [5, 0, 2, 4], [6, 2, 5, 1], [0, 4, 1, 5], [1, 6, 4, 2], [2, 1, 0, 6], [4, 4, 4, 4], [5, 6, 0, 1], [6, 1, 3, 5], [0, 3, 6, 2], [1, 5, 2, 6], [2, 0, 5, 3], [3, 2, 1, 0], [5, 5, 5, 5], [6, 0, 1, 2], [0, 2, 4, 6], [1, 4, 0, 3], [2, 6, 3, 0], [3, 1, 6, 4], [4, 3, 2, 1], [6, 6, 6, 6], [0, 1, 2, 3], [1, 3, 5, 0], [2, 5, 1, 4], [3, 0, 4, 1], [4, 2, 0, 5], [5, 4, 3, 2]]
def V741 : List (List Nat) := [[0, 0], [0, 1], [0, 2], [0, 3], [0, 4], [0, 5], [0, 6], [1, 0], [1, 1], [1, 2], [1, 3], [1, 4], [1, 5], [1, 6], [2, 0], [2, 1], [2, 2], [2, 3], [2, 4], [2, 5], [2, 6], [3, 0], [3, 1], [3, 2], [3, 3], [3, 4], [3, 5], [3, 6], [4, 0], [4, 1], [4, 2], [4, 3], [4, 4], [4, 5], [4, 6], [5, 0], [5, 1], [5, 2], [5, 3], [5, 4], [5, 5], [5, 6], [6, 0], [6, 1], [6, 2], [6, 3], [6, 4], [6, 5], [6, 6]]
def Z741 : List Nat := [1, 0, 0, 24, 24]
theorem w741 : T_dealt_words 7 4 1 = some (wI W741) := by decide +kernel
theorem v741 : T_all_rows 7 (1 + 1) = some (wI V741) := by decide +kernel
theorem g741 : T_least_gap 7 4 1 = some (4 - 1) := by decide +kernel
theorem z741 : T__law_weights 7 4 1 = some (Z741.map Int.ofNat) := by decide +kernel
theorem c741 : codeOk W741 Z741 (4 + 1) W741 = true := by decide +kernel
theorem k741_0 : chkR 7 4 1 (wI W741) (wI V741) (49 * 0) 49 = true := by decide +kernel
theorem K741 : ∀ k, k < 1 → chkR 7 4 1 (wI W741) (wI V741) (49 * k) 49 = true := fun k hk => match k, hk with
  | 0, _ => k741_0
  | k + 1, hk => absurd hk (by omega)
theorem D741 (cs : List Int) (i1 i2 i3 i4 : Int) (h1 : 0 ≤ i1) : ∃ j1 j2 j3 j4, F__law_are_dealt_right (hd cs i1 i2 i3 i4) [.int 7, .int 4, .int 1] = some (.bl true, hd cs j1 j2 j3 j4) ∧ 0 ≤ j1 :=
  dealt_ok 7 4 1 (wI W741) (wI V741) w741 v741 (by decide +kernel) g741 (by decide +kernel) (by decide +kernel) (fun i hi => posts_ok (l := 4) (W := W741) (wts := Z741) (by decide +kernel) (by decide +kernel) (by decide +kernel) (by decide +kernel) z741 (by decide +kernel) c741 (fun i hi => chkR_at K741 (by decide) i (Nat.lt_of_lt_of_eq hi (by decide +kernel))) i (Nat.lt_of_lt_of_eq hi (by decide +kernel))) cs i1 i2 i3 i4 h1
def W752 : List (List Nat) := [[0, 0, 0, 0, 0], [1, 4, 2, 2, 4], [2, 1, 4, 4, 1], [3, 5, 6, 6, 5], [4, 2, 1, 1, 2], [5, 6, 3, 3, 6], [6, 3, 5, 5, 3], [1, 2, 3, 4, 5], [2, 6, 5, 6, 2], [3, 3, 0, 1, 6], [4, 0, 2, 3, 3], [5, 4, 4, 5, 0], [6, 1, 6, 0, 4], [0, 5, 1, 2, 1], [2, 4, 6, 1, 3], [3, 1, 1, 3, 0], [4, 5, 3, 5, 4], [5, 2, 5, 0, 1], [6, 6, 0, 2, 5], [0, 3, 2, 4, 2], [1, 0, 4, 6, 6], [3, 6, 2, 5, 1], [4, 3, 4, 0, 5], [5, 0, 6, 2, 2], [6, 4, 1, 4, 6], [0, 1, 3, 6, 3], [1, 5, 5, 1, 0], [2, 2, 0, 3, 4], [4, 1, 5, 2, 6], [5, 5, 0, 4, 3], [6, 2, 2, 6, 0], [0, 6, 4, 1, 4], [1, 3, 6, 3, 1], [2, 0, 1, 5, 5], [3, 4, 3, 0, 2], [5, 3, 1, 6, 4], [6, 0, 3, 1, 1], [0, 4, 5, 3, 5], [1, 1, 0, 5, 2], [2, 5, 2, 0, 6], [3, 2, 4, 2, 3], [4, 6, 6, 4, 0], [6, 5, 4, 3, 2], [0, 2, 6, 5, 6], [1, 6, 1, 0, 3], [2, 3, 3, 2, 0], [3, 0, 5, 4, 4], [4, 4, 0, 6, 1], [5, 1, 2, 1, 5], [1, 1, 1, 1, 1], [2, 5, 3, 3, 5], [3, 2, 5, 5, 2], [4, 6, 0, 0, 6], [5, 3, 2, 2, 3], [6, 0, 4, 4, 0], [0, 4, 6, 6, 4], [2, 3, 4, 5, 6], [3, 0, 6, 0, 3], [4, 4, 1, 2, 0], [5, 1, 3, 4, 4], [6, 5, 5, 6, 1], [0, 2, 0, 1, 5], [1, 6, 2, 3, 2], [3, 5, 0, 2, 4], [4, 2, 2, 4, 1], [5, 6, 4, 6, 5], [6, 3, 6, 1, 2], [0, 0, 1, 3, 6], [1, 4, 3, 5, 3], [2, 1, 5, 0, 0], [4, 0, 3, 6, 2], [5, 4, 5, 1, 6], [6, 1, 0, 3, 3], [0, 5, 2, 5, 0], [1, 2, 4, 0, 4], [2, 6, 6, 2, 1], [3, 3, 1, 4, 5], [5, 2, 6, 3, 0], [6, 6, 1, 5, 4], [0, 3, 3, 0, 1], [1, 0, 5, 2, 5], [2, 4, 0, 4, 2], [3, 1, 2, 6, 6], [4, 5, 4, 1, 3], [6, 4, 2, 0, 5], [0, 1, 4, 2, 2], [1, 5, 6, 4, 6], [2, 2, 1, 6, 3], [3, 6, 3, 1, 0], [4, 3, 5, 3, 4], [5, 0, 0, 5, 1], [0, 6, 5, 4, 3], [1, 3, 0, 6, 0], [2, 0, 2, 1, 4], [3, 4, 4, 3, 1], [4, 1, 6, 5, 5], [5, 5, 1, 0, 2], [6, 2, 3, 2, 6], [2, 2, 2, 2, 2], [3, 6, 4, 4, 6], [4, 3, 6, 6, 3], [5, 0, 1, 1, 0], [6, 4, 3, 3, 4], [0, 1, 5, 5, 1], [1, 5, 0, 0, 5], [3, 4, 5, 6, 0], [4, 1, 0, 1, 4], [5, 5, 2, 3, 1], [6, 2, 4, 5, 5], [0, 6, 6, 0, 2], [1, 3, 1, 2, 6], [2, 0, 3, 4, 3], [4, 6, 1, 3, 5], [5, 3, 3, 5, 2], [6, 0, 5, 0, 6], [0, 4, 0, 2, 3], [1, 1, 2, 4, 0], [2, 5, 4, 6, 4], [3, 2, 6, 1, 1], [5, 1, 4, 0, 3], [6, 5, 6, 2, 0], [0, 2, 1, 4, 4], [1, 6, 3, 6, 1], [2, 3, 5, 1, 5], [3, 0, 0, 3, 2], [4, 4, 2, 5, 6], [6, 3, 0, 4, 1], [0, 0, 2, 6, 5], [1, 4, 4, 1, 2], [2, 1, 6, 3, 6], [3, 5, 1, 5, 3], [4, 2, 3, 0, 0], [5, 6, 5, 2, 4], [0, 5, 3, 1, 6], [1, 2, 5, 3, 3], [2, 6, 0, 5, 0], [3, 3, 2, 0, 4], [4, 0, 4, 2, 1], [5, 4, 6, 4, 5], [6, 1, 1, 6, 2], [1, 0, 6, 5, 4], [2, 4, 1, 0, 1], [3, 1, 3, 2, 5], [4, 5, 5, 4, 2], [5, 2, 0, 6, 6], [6, 6, 2, 1, 3], [0, 3, 4, 3, 0], [3, 3, 3, 3, 3], [4, 0, 5, 5, 0], [5, 4, 0, 0, 4], [6, 1, 2, 2, 1], [0, 5, 4, 4, 5], [1, 2, 6, 6, 2], [2, 6, 1, 1, 6], [4, 5, 6, 0, 1], [5, 2, 1, 2, 5], [6, 6, 3, 4, 2], [0, 3, 5, 6, 6], [1, 0, 0, 1, 3], [2, 4, 2, 3, 0], [3, 1, 4, 5, 4], [5, 0, 2, 4, 6], [6, 4, 4, 6, 3], [0, 1, 6, 1, 0], [1, 5, 1, 3, 4], [2, 2, 3, 5, 1], [3, 6, 5, 0, 5], [4, 3, 0, 2, 2], [6, 2, 5, 1, 4], [0, 6, 0, 3, 1], [1, 3, 2, 5, 5], [2, 0, 4, 0, 2], [3, 4, 6, 2, 6], [4, 1, 1, 4, 3], [5, 5, 3, 6, 0], [0, 4, 1, 5, 2], [1, 1, 3, 0, 6], [2, 5, 5, 2, 3], [3, 2, 0, 4, 0], [4, 6, 2, 6, 4], [5, 3, 4, 1, 1], [6, 0, 6, 3, 5], [1, 6, 4, 2, 0], [2, 3, 6, 4, 4], [3, 0, 1, 6, 1], [4, 4, 3, 1, 5], [5, 1, 5, 3, 2], [6, 5, 0, 5, 6], [0, 2, 2, 0, 3], [2, 1, 0, 6, 5], [3, 5, 2, 1, 2], [4, 2, 4, 3, 6], [5, 6, 6, 5, 3], [6, 3, 1, 0, 0], [0, 0, 3, 2, 4], [1, 4, 5, 4, 1], [4, 4, 4, 4, 4], [5, 1, 6, 6, 1], [6, 5, 1, 1, 5], [0, 2, 3, 3, 2], [1, 6, 5, 5, 6], [2, 3, 0, 0, 3], [3, 0, 2, 2, 0], [5, 6, 0, 1, 2], [6, 3, 2, 3, 6], [0, 0, 4, 5, 3], [1, 4, 6, 0, 0], [2, 1, 1, 2, 4], [3, 5, 3, 4, 1], [4, 2, 5, 6, 5], [6, 1, 3, 5, 0], [0, 5, 5, 0, 4], [1, 2, 0, 2, 1], [2, 6, 2, 4, 5], [3, 3, 4, 6, 2], [4, 0, 6, 1, 6], [5, 4, 1, 3, 3], [0, 3, 6, 2, 5], [1, 0, 1, 4, 2], [2, 4, 3, 6, 6], [3, 1, 5, 1, 3], [4, 5, 0, 3, 0], [5, 2, 2, 5, 4], [6, 6, 4, 0, 1], [1, 5, 2, 6, 3], [2, 2, 4, 1, 0], [3, 6, 6, 3, 4], [4, 3, 1, 5, 1], [5, 0, 3, 0, 5], [6, 4, 5, 2, 2], [0, 1, 0, 4, 6], [2, 0, 5, 3, 1], [3, 4, 0, 5, 5], [4, 1, 2, 0, 2], [5, 5, 4, 2, 6], [6, 2, 6, 4, 3], [0, 6, 1, 6, 0], [1, 3, 3, 1, 4], [3, 2, 1, 0, 6], [4, 6, 3, 2, 3], [5, 3, 5, 4, 0], [6, 0, 0, 6, 4], [0, 4, 2, 1, 1], [1, 1, 4, 3, 5], [2, 5, 6, 5, 2], [5, 5, 5, 5, 5], [6, 2, 0, 0, 2], [0, 6, 2, 2, 6], [1, 3, 4, 4, 3], [2, 0, 6, 6, 0], [3, 4, 1, 1, 4], [4, 1, 3, 3, 1], [6, 0, 1, 2, 3], [0, 4, 3, 4, 0], [1, 1, 5, 6, 4], [2, 5, 0, 1, 1], [3, 2, 2, 3, 5], [4, 6, 4, 5, 2], [5, 3, 6, 0, 6], [0, 2, 4, 6, 1], [1, 6, 6, 1, 5], [2, 3, 1, 3, 2], [3, 0, 3, 5, 6], [4, 4, 5, 0, 3], [5, 1, 0, 2, 0], [6, 5, 2, 4, 4], [1, 4, 0, 3, 6], [2, 1, 2, 5, 3], [3, 5, 4, 0, 0], [4, 2, 6, 2, 4], [5, 6, 1, 4, 1], [6, 3, 3, 6, 5], [0, 0, 5, 1, 2], [2, 6, 3, 0, 4], [3, 3, 5, 2, 1], [4, 0, 0, 4, 5], [5, 4, 2, 6, 2], [6, 1, 4, 1, 6], [0, 5, 6, 3, 3], [1, 2, 1, 5, 0], [3, 1, 6, 4, 2], [4, 5, 1, 6, 6], [5, 2, 3, 1, 3], [6, 6, 5, 3, 0], [0, 3, 0, 5, 4], [1, 0, 2, 0, 1], [2, 4, 4, 2, 5], [4, 3, 2, 1, 0], [5, 0, 4, 3, 4], [6, 4, 6, 5, 1], [0, 1, 1, 0, 5], [1, 5, 3, 2, 2], [2, 2, 5, 4, 6], [3, 6, 0, 6, 3], [6, 6, 6, 6, 6], [0, 3, 1, 1, 3], [1, 0, 3, 3, 0], [2, 4, 5, 5, 4], [3, 1, 0, 0, 1], [4, 5, 2, 2, 5], [5, 2, 4, 4, 2], [0, 1, 2, 3, 4], [1, 5, 4, 5, 1], [2, 2, 6, 0, 5], [3, 6, 1, 2, 2], [4, 3, 3, 4, 6], [5, 0, 5, 6, 3], [6, 4, 0, 1, 0], [1, 3, 5, 0, 2], [2, 0, 0, 2, 6], [3, 4, 2, 4, 3], [4, 1, 4, 6, 0], [5, 5, 6, 1, 4], [6, 2, 1, 3, 1], [0, 6, 3, 5, 5], [2, 5, 1, 4, 0], [3, 2, 3, 6, 4], [4, 6, 5, 1, 1], [5, 3, 0, 3, 5], [6, 0, 2, 5, 2], [0, 4, 4, 0, 6], [1, 1, 6, 2, 3], [3, 0, 4, 1, 5], [4, 4, 6, 3, 2], [5, 1, 1, 5, 6], [6, 5, 3, 0, 3], [0, 2, 5, 2, 0], [1, 6, 0, 4, 4], [2, 3, 2, 6, 1], [4, 2, 0, 5, 3], [5, 6, 2, 0, 0], [6, 3, 4, 2, 4], [0, 0, 6, 4, 1], [1, 4, 1, 6, 5], [2, 1, 3, 1, 2], [3, 5, 5, 3, 6], [5, 4, 3, 2, 1], [6, 1, 5, 4, 5], [0, 5, 0, 6, 2], [1, 2, 2, 1, 6], [2, 6, 4, 3, 3], [3, 3, 6, 5, 0], [4, 0, 1, 0, 4]]
def V752 : List (List Nat) := [[0, 0, 0], [0, 0, 1], [0, 0, 2], [0, 0, 3], [0, 0, 4], [0, 0, 5], [0, 0, 6], [0, 1, 0], [0, 1, 1], [0, 1, 2], [0, 1, 3], [0, 1, 4], [0, 1, 5], [0, 1, 6], [0, 2, 0], [0, 2, 1], [0, 2, 2], [0, 2, 3], [0, 2, 4], [0, 2, 5], [0, 2, 6], [0, 3, 0], [0, 3, 1], [0, 3, 2], [0, 3, 3], [0, 3, 4], [0, 3, 5], [0, 3, 6], [0, 4, 0], [0, 4, 1], [0, 4, 2], [0, 4, 3], [0, 4, 4], [0, 4, 5], [0, 4, 6], [0, 5, 0], [0, 5, 1], [0, 5, 2], [0, 5, 3], [0, 5, 4], [0, 5, 5], [0, 5, 6], [0, 6, 0], [0, 6, 1], [0, 6, 2], [0, 6, 3], [0, 6, 4], [0, 6, 5], [0, 6, 6], [1, 0, 0], [1, 0, 1], [1, 0, 2], [1, 0, 3], [1, 0, 4], [1, 0, 5], [1, 0, 6], [1, 1, 0], [1, 1, 1], [1, 1, 2], [1, 1, 3], [1, 1, 4], [1, 1, 5], [1, 1, 6], [1, 2, 0], [1, 2, 1], [1, 2, 2], [1, 2, 3], [1, 2, 4], [1, 2, 5], [1, 2, 6], [1, 3, 0], [1, 3, 1], [1, 3, 2], [1, 3, 3], [1, 3, 4], [1, 3, 5], [1, 3, 6], [1, 4, 0], [1, 4, 1], [1, 4, 2], [1, 4, 3], [1, 4, 4], [1, 4, 5], [1, 4, 6], [1, 5, 0], [1, 5, 1], [1, 5, 2], [1, 5, 3], [1, 5, 4], [1, 5, 5], [1, 5, 6], [1, 6, 0], [1, 6, 1], [1, 6, 2], [1, 6, 3], [1, 6, 4], [1, 6, 5], [1, 6, 6], [2, 0, 0], [2, 0, 1], [2, 0, 2], [2, 0, 3], [2, 0, 4], [2, 0, 5], [2, 0, 6], [2, 1, 0], [2, 1, 1], [2, 1, 2], [2, 1, 3], [2, 1, 4], [2, 1, 5], [2, 1, 6], [2, 2, 0], [2, 2, 1], [2, 2, 2], [2, 2, 3], [2, 2, 4], [2, 2, 5], [2, 2, 6], [2, 3, 0], [2, 3, 1], [2, 3, 2], [2, 3, 3], [2, 3, 4], [2, 3, 5], [2, 3, 6], [2, 4, 0], [2, 4, 1], [2, 4, 2], [2, 4, 3], [2, 4, 4], [2, 4, 5], [2, 4, 6], [2, 5, 0], [2, 5, 1], [2, 5, 2], [2, 5, 3], [2, 5, 4], [2, 5, 5], [2, 5, 6], [2, 6, 0], [2, 6, 1], [2, 6, 2], [2, 6, 3], [2, 6, 4], [2, 6, 5], [2, 6, 6], [3, 0, 0], [3, 0, 1], [3, 0, 2], [3, 0, 3], [3, 0, 4], [3, 0, 5], [3, 0, 6], [3, 1, 0], [3, 1, 1], [3, 1, 2], [3, 1, 3], [3, 1, 4], [3, 1, 5], [3, 1, 6], [3, 2, 0], [3, 2, 1], [3, 2, 2], [3, 2, 3], [3, 2, 4], [3, 2, 5], [3, 2, 6], [3, 3, 0], [3, 3, 1], [3, 3, 2], [3, 3, 3], [3, 3, 4], [3, 3, 5], [3, 3, 6], [3, 4, 0], [3, 4, 1], [3, 4, 2], [3, 4, 3], [3, 4, 4], [3, 4, 5], [3, 4, 6], [3, 5, 0], [3, 5, 1], [3, 5, 2], [3, 5, 3], [3, 5, 4], [3, 5, 5], [3, 5, 6], [3, 6, 0], [3, 6, 1], [3, 6, 2], [3, 6, 3], [3, 6, 4], [3, 6, 5], [3, 6, 6], [4, 0, 0], [4, 0, 1], [4, 0, 2], [4, 0, 3], [4, 0, 4], [4, 0, 5], [4, 0, 6], [4, 1, 0], [4, 1, 1], [4, 1, 2], [4, 1, 3], [4, 1, 4], [4, 1, 5], [4, 1, 6], [4, 2, 0], [4, 2, 1], [4, 2, 2], [4, 2, 3], [4, 2, 4], [4, 2, 5], [4, 2, 6], [4, 3, 0], [4, 3, 1], [4, 3, 2], [4, 3, 3], [4, 3, 4], [4, 3, 5], [4, 3, 6], [4, 4, 0], [4, 4, 1], [4, 4, 2], [4, 4, 3], [4, 4, 4], [4, 4, 5], [4, 4, 6], [4, 5, 0], [4, 5, 1], [4, 5, 2], [4, 5, 3], [4, 5, 4], [4, 5, 5], [4, 5, 6], [4, 6, 0], [4, 6, 1], [4, 6, 2], [4, 6, 3], [4, 6, 4], [4, 6, 5], [4, 6, 6], [5, 0, 0], [5, 0, 1], [5, 0, 2], [5, 0, 3], [5, 0, 4], [5, 0, 5], [5, 0, 6], [5, 1, 0], [5, 1, 1], [5, 1, 2], [5, 1, 3], [5, 1, 4], [5, 1, 5], [5, 1, 6], [5, 2, 0], [5, 2, 1], [5, 2, 2], [5, 2, 3], [5, 2, 4], [5, 2, 5], [5, 2, 6], [5, 3, 0], [5, 3, 1], [5, 3, 2], [5, 3, 3], [5, 3, 4], [5, 3, 5], [5, 3, 6], [5, 4, 0], [5, 4, 1], [5, 4, 2], [5, 4, 3], [5, 4, 4], [5, 4, 5], [5, 4, 6], [5, 5, 0], [5, 5, 1], [5, 5, 2], [5, 5, 3], [5, 5, 4], [5, 5, 5], [5, 5, 6], [5, 6, 0], [5, 6, 1], [5, 6, 2], [5, 6, 3], [5, 6, 4], [5, 6, 5], [5, 6, 6], [6, 0, 0], [6, 0, 1], [6, 0, 2], [6, 0, 3], [6, 0, 4], [6, 0, 5], [6, 0, 6], [6, 1, 0], [6, 1, 1], [6, 1, 2], [6, 1, 3], [6, 1, 4], [6, 1, 5], [6, 1, 6], [6, 2, 0], [6, 2, 1], [6, 2, 2], [6, 2, 3], [6, 2, 4], [6, 2, 5], [6, 2, 6], [6, 3, 0], [6, 3, 1], [6, 3, 2], [6, 3, 3], [6, 3, 4], [6, 3, 5], [6, 3, 6], [6, 4, 0], [6, 4, 1], [6, 4, 2], [6, 4, 3], [6, 4, 4], [6, 4, 5], [6, 4, 6], [6, 5, 0], [6, 5, 1], [6, 5, 2], [6, 5, 3], [6, 5, 4], [6, 5, 5], [6, 5, 6], [6, 6, 0], [6, 6, 1], [6, 6, 2], [6, 6, 3], [6, 6, 4], [6, 6, 5], [6, 6, 6]]
def Z752 : List Nat := [1, 0, 0, 60, 120, 162]
theorem w752 : T_dealt_words 7 5 2 = some (wI W752) := by decide +kernel
theorem v752 : T_all_rows 7 (2 + 1) = some (wI V752) := by decide +kernel
theorem g752 : T_least_gap 7 5 2 = some (5 - 2) := by decide +kernel
theorem z752 : T__law_weights 7 5 2 = some (Z752.map Int.ofNat) := by decide +kernel
theorem c752_0 : codeOk W752 Z752 (5 + 1) ((W752.drop 0).take 49) = true := by decide +kernel
theorem c752_1 : codeOk W752 Z752 (5 + 1) ((W752.drop 49).take 49) = true := by decide +kernel
theorem c752_2 : codeOk W752 Z752 (5 + 1) ((W752.drop 98).take 49) = true := by decide +kernel
theorem c752_3 : codeOk W752 Z752 (5 + 1) ((W752.drop 147).take 49) = true := by decide +kernel
theorem c752_4 : codeOk W752 Z752 (5 + 1) ((W752.drop 196).take 49) = true := by decide +kernel
theorem c752_5 : codeOk W752 Z752 (5 + 1) ((W752.drop 245).take 49) = true := by decide +kernel
theorem c752_6 : codeOk W752 Z752 (5 + 1) ((W752.drop 294).take 49) = true := by decide +kernel
theorem c752 : codeOk W752 Z752 (5 + 1) W752 = true := by
  have h := (codeOk_app c752_0 (codeOk_app c752_1 (codeOk_app c752_2 (codeOk_app c752_3 (codeOk_app c752_4 (codeOk_app c752_5 c752_6))))))
  have e : (((W752.drop 0).take 49) ++ (((W752.drop 49).take 49) ++ (((W752.drop 98).take 49) ++ (((W752.drop 147).take 49) ++ (((W752.drop 196).take 49) ++ (((W752.drop 245).take 49) ++ ((W752.drop 294).take 49))))))) = W752 := by decide +kernel
  rw [e] at h
  exact h
theorem k752_0 : chkR 7 5 2 (wI W752) (wI V752) (49 * 0) 49 = true := by decide +kernel
theorem k752_1 : chkR 7 5 2 (wI W752) (wI V752) (49 * 1) 49 = true := by decide +kernel
theorem k752_2 : chkR 7 5 2 (wI W752) (wI V752) (49 * 2) 49 = true := by decide +kernel
theorem k752_3 : chkR 7 5 2 (wI W752) (wI V752) (49 * 3) 49 = true := by decide +kernel
theorem k752_4 : chkR 7 5 2 (wI W752) (wI V752) (49 * 4) 49 = true := by decide +kernel
theorem k752_5 : chkR 7 5 2 (wI W752) (wI V752) (49 * 5) 49 = true := by decide +kernel
theorem k752_6 : chkR 7 5 2 (wI W752) (wI V752) (49 * 6) 49 = true := by decide +kernel
theorem K752 : ∀ k, k < 7 → chkR 7 5 2 (wI W752) (wI V752) (49 * k) 49 = true := fun k hk => match k, hk with
  | 0, _ => k752_0
  | 1, _ => k752_1
  | 2, _ => k752_2
  | 3, _ => k752_3
  | 4, _ => k752_4
  | 5, _ => k752_5
  | 6, _ => k752_6
  | k + 7, hk => absurd hk (by omega)
theorem D752 (cs : List Int) (i1 i2 i3 i4 : Int) (h1 : 0 ≤ i1) : ∃ j1 j2 j3 j4, F__law_are_dealt_right (hd cs i1 i2 i3 i4) [.int 7, .int 5, .int 2] = some (.bl true, hd cs j1 j2 j3 j4) ∧ 0 ≤ j1 :=
  dealt_ok 7 5 2 (wI W752) (wI V752) w752 v752 (by decide +kernel) g752 (by decide +kernel) (by decide +kernel) (fun i hi => posts_ok (l := 5) (W := W752) (wts := Z752) (by decide +kernel) (by decide +kernel) (by decide +kernel) (by decide +kernel) z752 (by decide +kernel) c752 (fun i hi => chkR_at K752 (by decide) i (Nat.lt_of_lt_of_eq hi (by decide +kernel))) i (Nat.lt_of_lt_of_eq hi (by decide +kernel))) cs i1 i2 i3 i4 h1
def W761 : List (List Nat) := [[0, 0, 0, 0, 0, 0], [1, 2, 3, 4, 5, 6], [2, 4, 6, 1, 3, 5], [3, 6, 2, 5, 1, 4], [4, 1, 5, 2, 6, 3], [5, 3, 1, 6, 4, 2], [6, 5, 4, 3, 2, 1], [1, 1, 1, 1, 1, 1], [2, 3, 4, 5, 6, 0], [3, 5, 0, 2, 4, 6], [4, 0, 3, 6, 2, 5], [5, 2, 6, 3, 0, 4], [6, 4, 2, 0, 5, 3], [0, 6, 5, 4, 3, 2], [2, 2, 2, 2, 2, 2], [3, 4, 5, 6, 0, 1], [4, 6, 1, 3, 5, 0], [5, 1, 4, 0, 3, 6], [6, 3, 0, 4, 1, 5], [0, 5, 3, 1, 6, 4], [1, 0, 6, 5, 4, 3], [3, 3, 3, 3, 3, 3], [4, 5, 6, 0, 1, 2], [5, 0, 2, 4, 6, 1], [6, 2, 5, 1, 4, 0], [0, 4, 1, 5, 2, 6], [1, 6, 4, 2, 0, 5], [2, 1, 0, 6, 5, 4], [4, 4, 4, 4, 4, 4], [5, 6, 0, 1, 2, 3], [6, 1, 3, 5, 0, 2], [0, 3, 6, 2, 5, 1], [1, 5, 2, 6, 3, 0], [2, 0, 5, 3, 1, 6], [3, 2, 1, 0, 6, 5], [5, 5, 5, 5, 5, 5], [6, 0, 1, 2, 3, 4], [0, 2, 4, 6, 1, 3], [1, 4, 0, 3, 6, 2], [2, 6, 3, 0, 4, 1], [3, 1, 6, 4, 2, 0], [4, 3, 2, 1, 0, 6], [6, 6, 6, 6, 6, 6], [0, 1, 2, 3, 4, 5], [1, 3, 5, 0, 2, 4], [2, 5, 1, 4, 0, 3], [3, 0, 4, 1, 5, 2], [4, 2, 0, 5, 3, 1], [5, 4, 3, 2, 1, 0]]
def V761 : List (List Nat) := [[0, 0], [0, 1], [0, 2], [0, 3], [0, 4], [0, 5], [0, 6], [1, 0], [1, 1], [1, 2], [1, 3], [1, 4], [1, 5], [1, 6], [2, 0], [2, 1], [2, 2], [2, 3], [2, 4], [2, 5], [2, 6], [3, 0], [3, 1], [3, 2], [3, 3], [3, 4], [3, 5], [3, 6], [4, 0], [4, 1], [4, 2], [4, 3], [4, 4], [4, 5], [4, 6], [5, 0], [5, 1], [5, 2], [5, 3], [5, 4], [5, 5], [5, 6], [6, 0], [6, 1], [6, 2], [6, 3], [6, 4], [6, 5], [6, 6]]
def Z761 : List Nat := [1, 0, 0, 0, 0, 36, 12]
theorem w761 : T_dealt_words 7 6 1 = some (wI W761) := by decide +kernel
theorem v761 : T_all_rows 7 (1 + 1) = some (wI V761) := by decide +kernel
theorem g761 : T_least_gap 7 6 1 = some (6 - 1) := by decide +kernel
theorem z761 : T__law_weights 7 6 1 = some (Z761.map Int.ofNat) := by decide +kernel
theorem c761 : codeOk W761 Z761 (6 + 1) W761 = true := by decide +kernel
theorem k761_0 : chkR 7 6 1 (wI W761) (wI V761) (49 * 0) 49 = true := by decide +kernel
theorem K761 : ∀ k, k < 1 → chkR 7 6 1 (wI W761) (wI V761) (49 * k) 49 = true := fun k hk => match k, hk with
  | 0, _ => k761_0
  | k + 1, hk => absurd hk (by omega)
theorem D761 (cs : List Int) (i1 i2 i3 i4 : Int) (h1 : 0 ≤ i1) : ∃ j1 j2 j3 j4, F__law_are_dealt_right (hd cs i1 i2 i3 i4) [.int 7, .int 6, .int 1] = some (.bl true, hd cs j1 j2 j3 j4) ∧ 0 ≤ j1 :=
  dealt_ok 7 6 1 (wI W761) (wI V761) w761 v761 (by decide +kernel) g761 (by decide +kernel) (by decide +kernel) (fun i hi => posts_ok (l := 6) (W := W761) (wts := Z761) (by decide +kernel) (by decide +kernel) (by decide +kernel) (by decide +kernel) z761 (by decide +kernel) c761 (fun i hi => chkR_at K761 (by decide) i (Nat.lt_of_lt_of_eq hi (by decide +kernel))) i (Nat.lt_of_lt_of_eq hi (by decide +kernel))) cs i1 i2 i3 i4 h1
def W532 : List (List Nat) := [[0, 0, 0], [1, 4, 4], [2, 3, 3], [3, 2, 2], [4, 1, 1], [1, 2, 3], [2, 1, 2], [3, 0, 1], [4, 4, 0], [0, 3, 4], [2, 4, 1], [3, 3, 0], [4, 2, 4], [0, 1, 3], [1, 0, 2], [3, 1, 4], [4, 0, 3], [0, 4, 2], [1, 3, 1], [2, 2, 0], [4, 3, 2], [0, 2, 1], [1, 1, 0], [2, 0, 4], [3, 4, 3], [1, 1, 1], [2, 0, 0], [3, 4, 4], [4, 3, 3], [0, 2, 2], [2, 3, 4], [3, 2, 3], [4, 1, 2], [0, 0, 1], [1, 4, 0], [3, 0, 2], [4, 4, 1], [0, 3, 0], [1, 2, 4], [2, 1, 3], [4, 2, 0], [0, 1, 4], [1, 0, 3], [2, 4, 2], [3, 3, 1], [0, 4, 3], [1, 3, 2], [2, 2, 1], [3, 1, 0], [4, 0, 4], [2, 2, 2], [3, 1, 1], [4, 0, 0], [0, 4, 4], [1, 3, 3], [3, 4, 0], [4, 3, 4], [0, 2, 3], [1, 1, 2], [2, 0, 1], [4, 1, 3], [0, 0, 2], [1, 4, 1], [2, 3, 0], [3, 2, 4], [0, 3, 1], [1, 2, 0], [2, 1, 4], [3, 0, 3], [4, 4, 2], [1, 0, 4], [2, 4, 3], [3, 3, 2], [4, 2, 1], [0, 1, 0], [3, 3, 3], [4, 2, 2], [0, 1, 1], [1, 0, 0], [2, 4, 4], [4, 0, 1], [0, 4, 0], [1, 3, 4], [2, 2, 3], [3, 1, 2], [0, 2, 4], [1, 1, 3], [2, 0, 2], [3, 4, 1], [4, 3, 0], [1, 4, 2], [2, 3, 1], [3, 2, 0], [4, 1, 4], [0, 0, 3], [2, 1, 0], [3, 0, 4], [4, 4, 3], [0, 3, 2], [1, 2, 1], [4, 4, 4], [0, 3, 3], [1, 2, 2], [2, 1, 1], [3, 0, 0], [0, 1, 2], [1, 0, 1], [2, 4, 0], [3, 3, 4], [4, 2, 3], [1, 3, 0], [2, 2, 4], [3, 1, 3], [4, 0, 2], [0, 4, 1], [2, 0, 3], [3, 4, 2], [4, 3, 1], [0, 2, 0], [1, 1, 4], [3, 2, 1], [4, 1, 0], [0, 0, 4], [1, 4, 3], [2, 3, 2]]
def V532 : List (List Nat) := [[0, 0, 0], [0, 0, 1], [0, 0, 2], [0, 0, 3], [0, 0, 4], [0, 1, 0], [0, 1, 1], [0, 1, 2], [0, 1, 3], [0, 1, 4], [0, 2, 0], [0, 2, 1], [0, 2, 2], [0, 2, 3], [0, 2, 4], [0, 3, 0], [0, 3, 1], [0, 3, 2], [0, 3, 3], [0, 3, 4], [0, 4, 0], [0, 4, 1], [0, 4, 2], [0, 4, 3], [0, 4, 4], [1, 0, 0], [1, 0, 1], [1, 0, 2], [1, 0, 3], [1, 0, 4], [1, 1, 0], [1, 1, 1], [1, 1, 2], [1, 1, 3], [1, 1, 4], [1, 2, 0], [1, 2, 1], [1, 2, 2], [1, 2, 3], [1, 2, 4], [1, 3, 0], [1, 3, 1], [1, 3, 2], [1, 3, 3], [1, 3, 4], [1, 4, 0], [1, 4, 1], [1, 4, 2], [1, 4, 3], [1, 4, 4], [2, 0, 0], [2, 0, 1], [2, 0, 2], [2, 0, 3], [2, 0, 4], [2, 1, 0], [2, 1, 1], [2, 1, 2], [2, 1, 3], [2, 1, 4], [2, 2, 0], [2, 2, 1], [2, 2, 2], [2, 2, 3], [2, 2, 4], [2, 3, 0], [2, 3, 1], [2, 3, 2], [2, 3, 3], [2, 3, 4], [2, 4, 0], [2, 4, 1], [2, 4, 2], [2, 4, 3], [2, 4, 4], [3, 0, 0], [3, 0, 1], [3, 0, 2], [3, 0, 3], [3, 0, 4], [3, 1, 0], [3, 1, 1], [3, 1, 2], [3, 1, 3], [3, 1, 4], [3, 2, 0], [3, 2, 1], [3, 2, 2], [3, 2, 3], [3, 2, 4], [3, 3, 0], [3, 3, 1], [3, 3, 2], [3, 3, 3], [3, 3, 4], [3, 4, 0], [3, 4, 1], [3, 4, 2], [3, 4, 3], [3, 4, 4], [4, 0, 0], [4, 0, 1], [4, 0, 2], [4, 0, 3], [4, 0, 4], [4, 1, 0], [4, 1, 1], [4, 1, 2], [4, 1, 3], [4, 1, 4], [4, 2, 0], [4, 2, 1], [4, 2, 2], [4, 2, 3], [4, 2, 4], [4, 3, 0], [4, 3, 1], [4, 3, 2], [4, 3, 3], [4, 3, 4], [4, 4, 0], [4, 4, 1], [4, 4, 2], [4, 4, 3], [4, 4, 4]]
def Z532 : List Nat := [1, 12, 48, 64]
theorem w532 : T_dealt_words 5 3 2 = some (wI W532) := by decide +kernel
theorem v532 : T_all_rows 5 (2 + 1) = some (wI V532) := by decide +kernel
theorem g532 : T_least_gap 5 3 2 = some (3 - 2) := by decide +kernel
theorem z532 : T__law_weights 5 3 2 = some (Z532.map Int.ofNat) := by decide +kernel
theorem c532 : codeOk W532 Z532 (3 + 1) W532 = true := by decide +kernel
theorem k532_0 : chkR 5 3 2 (wI W532) (wI V532) (25 * 0) 25 = true := by decide +kernel
theorem k532_1 : chkR 5 3 2 (wI W532) (wI V532) (25 * 1) 25 = true := by decide +kernel
theorem k532_2 : chkR 5 3 2 (wI W532) (wI V532) (25 * 2) 25 = true := by decide +kernel
theorem k532_3 : chkR 5 3 2 (wI W532) (wI V532) (25 * 3) 25 = true := by decide +kernel
theorem k532_4 : chkR 5 3 2 (wI W532) (wI V532) (25 * 4) 25 = true := by decide +kernel
theorem K532 : ∀ k, k < 5 → chkR 5 3 2 (wI W532) (wI V532) (25 * k) 25 = true := fun k hk => match k, hk with
  | 0, _ => k532_0
  | 1, _ => k532_1
  | 2, _ => k532_2
  | 3, _ => k532_3
  | 4, _ => k532_4
  | k + 5, hk => absurd hk (by omega)
theorem D532 (cs : List Int) (i1 i2 i3 i4 : Int) (h1 : 0 ≤ i1) : ∃ j1 j2 j3 j4, F__law_are_dealt_right (hd cs i1 i2 i3 i4) [.int 5, .int 3, .int 2] = some (.bl true, hd cs j1 j2 j3 j4) ∧ 0 ≤ j1 :=
  dealt_ok 5 3 2 (wI W532) (wI V532) w532 v532 (by decide +kernel) g532 (by decide +kernel) (by decide +kernel) (fun i hi => posts_ok (l := 3) (W := W532) (wts := Z532) (by decide +kernel) (by decide +kernel) (by decide +kernel) (by decide +kernel) z532 (by decide +kernel) c532 (fun i hi => chkR_at K532 (by decide) i (Nat.lt_of_lt_of_eq hi (by decide +kernel))) i (Nat.lt_of_lt_of_eq hi (by decide +kernel))) cs i1 i2 i3 i4 h1
theorem N5301 : T__law_are_near_right 5 3 0 1 = some true := by decide +kernel
theorem N5311 : T__law_are_near_right 5 3 1 1 = some true := by decide +kernel
theorem N5201 : T__law_are_near_right 5 2 0 1 = some true := by decide +kernel
theorem N7201 : T__law_are_near_right 7 2 0 1 = some true := by decide +kernel
theorem N5302 : T__law_are_near_right 5 3 0 2 = some true := by decide +kernel
theorem N3201 : T__law_are_near_right 3 2 0 1 = some true := by decide +kernel
theorem N7200 : T__law_are_near_right 7 2 0 0 = some true := by decide +kernel
def dealts : List (Int × Int × Int) := [(5, 3, 1), (5, 4, 1), (5, 4, 2), (7, 4, 1), (7, 5, 2), (7, 6, 1), (5, 3, 2)]
def nears : List (Int × Int × Int × Int) := [(5, 3, 0, 1), (5, 3, 1, 1), (5, 2, 0, 1), (7, 2, 0, 1), (5, 3, 0, 2), (3, 2, 0, 1), (7, 2, 0, 0)]
theorem dealts_ok (x : Int × Int × Int) (hx : x ∈ dealts) (cs : List Int) (i1 i2 i3 i4 : Int) (h1 : 0 ≤ i1) : ∃ j1 j2 j3 j4, F__law_are_dealt_right (hd cs i1 i2 i3 i4) [.int x.1, .int x.2.1, .int x.2.2] = some (.bl true, hd cs j1 j2 j3 j4) ∧ 0 ≤ j1 := by
  unfold dealts at hx
  simp only [List.mem_cons, List.not_mem_nil, or_false] at hx
  rcases hx with rfl | rfl | rfl | rfl | rfl | rfl | rfl
  · exact D531 cs i1 i2 i3 i4 h1
  · exact D541 cs i1 i2 i3 i4 h1
  · exact D542 cs i1 i2 i3 i4 h1
  · exact D741 cs i1 i2 i3 i4 h1
  · exact D752 cs i1 i2 i3 i4 h1
  · exact D761 cs i1 i2 i3 i4 h1
  · exact D532 cs i1 i2 i3 i4 h1
theorem nears_ok (x : Int × Int × Int × Int) (hx : x ∈ nears) : F__law_are_near_right [.int x.1, .int x.2.1, .int x.2.2.1, .int x.2.2.2] = some (.bl true) := by
  unfold nears at hx
  simp only [List.mem_cons, List.not_mem_nil, or_false] at hx
  rcases hx with rfl | rfl | rfl | rfl | rfl | rfl | rfl
  · exact (ok_T__law_are_near_right 5 3 0 1).trans (by rw [N5301]; rfl)
  · exact (ok_T__law_are_near_right 5 3 1 1).trans (by rw [N5311]; rfl)
  · exact (ok_T__law_are_near_right 5 2 0 1).trans (by rw [N5201]; rfl)
  · exact (ok_T__law_are_near_right 7 2 0 1).trans (by rw [N7201]; rfl)
  · exact (ok_T__law_are_near_right 5 3 0 2).trans (by rw [N5302]; rfl)
  · exact (ok_T__law_are_near_right 3 2 0 1).trans (by rw [N3201]; rfl)
  · exact (ok_T__law_are_near_right 7 2 0 0).trans (by rw [N7200]; rfl)
theorem ev_p3 {env : PL.Env} {io : D} (a b c : Int) : Ev env io (xTup (xCons (xC (.int a)) (xCons (xC (.int b)) (xCons (xC (.int c)) xNil)))) (eP3 D.int D.int D.int (a, b, c)) := ev_tup (el_cons ev_c (el_cons ev_c (el_cons ev_c el_nil)))
theorem ev_p4 {env : PL.Env} {io : D} (a b c d : Int) : Ev env io (xTup (xCons (xC (.int a)) (xCons (xC (.int b)) (xCons (xC (.int c)) (xCons (xC (.int d)) xNil))))) (eP4 D.int D.int D.int D.int (a, b, c, d)) := ev_tup (el_cons ev_c (el_cons ev_c (el_cons ev_c (el_cons ev_c el_nil))))
theorem plain (ns : List Int) : F_law [.scr ns] = some (.bl true) := by
  obtain ⟨cs, i3, hh⟩ := hand_ok ns
  obtain ⟨x, hx, a1, a2, a3, a4, ha, ha1⟩ := any_ok (e := eP3 D.int D.int D.int) dealts cs 0 0 i3 0 (by decide) (by decide) (by decide)
  obtain ⟨b1, b2, b3, b4, hb, hb1⟩ := dealts_ok x hx cs a1 a2 a3 a4 ha1
  obtain ⟨y, hy, c1, c2, c3, c4, hc, hc1⟩ := any_ok (e := eP4 D.int D.int D.int D.int) nears cs b1 b2 b3 b4 hb1 (by decide) (by decide)
  have hn := nears_ok y hy
  have main : g_law [some (.scr ns), none, none, none, none, none] .non = some (.rt (.bl true), [some (.scr ns), none, some (.int y.1), some (.int y.2.1), some (.int y.2.2.1), some (.int y.2.2.2)], hd cs c1 c2 c3 c4) := by
    show sSeq _ _ _ _ = _
    rw [seq_run (x := [some (.scr ns), none, none, none, none, none]) (io' := hd cs 0 0 i3 0) (by
      unfold sIoNew
      rw [show xCall F__law_hand (xCons (xVar 0) xNil) [some (.scr ns), none, none, none, none, none] .non = some (hd cs 0 0 i3 0, .non) from ev_call (x := .scr ns) hh rfl]
      rfl)]
    rw [seq_run (sAsg_run (env' := [some (.scr ns), none, some (.int x.1), some (.int x.2.1), some (.int x.2.2), none]) (io_L (el_cons (x := eL (eP3 D.int D.int D.int) dealts) (ev_lst (el_cons (ev_p3 _ _ _) (el_cons (ev_p3 _ _ _) (el_cons (ev_p3 _ _ _) (el_cons (ev_p3 _ _ _) (el_cons (ev_p3 _ _ _) (el_cons (ev_p3 _ _ _) (el_cons (ev_p3 _ _ _) el_nil)))))))) el_nil) ha) rfl)]
    rw [seq_run (x := [some (.scr ns), none, some (.int x.1), some (.int x.2.1), some (.int x.2.2), none]) (io' := hd cs b1 b2 b3 b4) (by
      rw [sIf_run (k := false) (io' := hd cs b1 b2 b3 b4) (by
        unfold bNot bX
        rw [io_3 (x := .int x.1) (y := .int x.2.1) (u := .int x.2.2) rfl rfl rfl hb]
        rfl), if_neg Bool.false_ne_true]
      rfl)]
    rw [seq_run (sAsg_run (env' := [some (.scr ns), none, some (.int y.1), some (.int y.2.1), some (.int y.2.2.1), some (.int y.2.2.2)]) (io_L (el_cons (x := eL (eP4 D.int D.int D.int D.int) nears) (ev_lst (el_cons (ev_p4 _ _ _ _) (el_cons (ev_p4 _ _ _ _) (el_cons (ev_p4 _ _ _ _) (el_cons (ev_p4 _ _ _ _) (el_cons (ev_p4 _ _ _ _) (el_cons (ev_p4 _ _ _ _) (el_cons (ev_p4 _ _ _ _) el_nil)))))))) el_nil) hc) rfl)]
    exact sRet_run (ev_callL (xs := [.int y.1, .int y.2.1, .int y.2.2.1, .int y.2.2.2]) (el_cons rfl (el_cons rfl (el_cons rfl (el_cons rfl el_nil)))) hn)
  show ((g_law [some (.scr ns), none, none, none, none, none] .non).bind _) = _
  rw [main]
  rfl
end My

open PySem PySem.W PySem.Calls PyProof.Rows
theorem PySem.Challenge.cw_handsights_k05_whole_words_counted_by_th_holds : PySem.Challenge.rw_handsights_k05_whole_words_counted_by_th.Holds := by
  w_on; o_law
  refine HandSHeadRun.head_any (r := OpenLaw.row PySem.Challenge.rw_handsights_k05_whole_words_counted_by_th) (q := view (OpenLaw.row PySem.Challenge.rw_handsights_k05_whole_words_counted_by_th).prog [40]) (H := My.hk) (ob := My.ob) (M := 2100) (loose := My.loose) (d := HandSHeadRun.topDef (OpenLaw.row PySem.Challenge.rw_handsights_k05_whole_words_counted_by_th).prog 40) (kwd := []) My.ob_eq
    (by kernel_rfl) (fun s => by kernel_rfl) My.run (by kernel_rfl) (by kernel_rfl) (by kernel_rfl) (by rfl) (by first | assumption | decide +kernel) (by decide +kernel) ⟨rfl, rfl, rfl, rfl, rfl, by decide +kernel⟩ ?hw ?hc
  case hw => w_witness2
  case hc =>
    refine L2.walk_ofE (l := PySem.Challenge.rw_handsights_k05_whole_words_counted_by_th) (n := 63) (k := 9) (x := "script") (CX := L2.CX0) rfl (by decide) (by kernel_rfl) ⟨rfl, by decide, by decide⟩ ?F (fun _ _ _ _ z => z)
    intro w mg fa h Y G hmg0
    obtain ⟨K, KX, c, cx⟩ := Y
    have hmg : mg ("law" : PySem.Str) = some (.ref fa) := by
      have e : (HandSHeadRun.topDef (OpenLaw.row PySem.Challenge.rw_handsights_k05_whole_words_counted_by_th).prog 40).name = ("law" : PySem.Str) := by kernel_rfl
      rw [← e]
      exact hmg0
    obtain ⟨fd, hb, hF⟩ := My.facts (P := (PySem.Challenge.rw_handsights_k05_whole_words_counted_by_th).prog) (w := w) KX G hmg c cx
    exact ⟨K, fd, PL.spP K 1 My.F_law, KX, hb, fun H a ns hl _ hS => PL.sp_scr hS (My.plain ns), hF⟩


