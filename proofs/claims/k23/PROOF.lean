import PyProof.Rows.All
import Wide.All
import OpenK.AllK
import Wide.FinOn
import HandS.ForMost
import HandS.Wide
import HandS.Deep
import KE.SortData
import HandS.EndBits
import PyProof.ReprRoads
import KE.DataIsa
import Flt.Sum
import PySem.Challenge.RW_lothouse_k23_sides_between_regions
set_option Elab.async false
set_option linter.all false
set_option maxRecDepth 100000
set_option maxHeartbeats 8000000
/-! A data layer over the hand layer: readings told by data, without addresses. -/
namespace DL
open PySem L2

/-! ### data at a value -/
mutual
inductive Dt (K : PySem.W.Frag) (F : Hp) : V → PyData → Prop
  | non : Dt K F .non .none
  | bl (b : Bool) : Dt K F (.bl b) (.bool b)
  | int (i : Int) : Dt K F (.int i) (.int i)
  | str (x : Str) : Dt K F (.str x) (.str x)
  | lst {a : Addr} {xs : List V} {ds : List PyData} : F a = some (.lst xs) → DtAll K F xs ds → Dt K F (.ref a) (.list ds)
  | tup {a : Addr} {xs : List V} {ds : List PyData} : SqT K F a xs → DtAll K F xs ds → Dt K F (.ref a) (.tuple ds)
inductive DtAll (K : PySem.W.Frag) (F : Hp) : List V → List PyData → Prop
  | nil : DtAll K F [] []
  | cons {v : V} {vs : List V} {d : PyData} {ds : List PyData} : Dt K F v d → DtAll K F vs ds → DtAll K F (v :: vs) (d :: ds)
end

section
variable {K : PySem.W.Frag} {F F' G H H' : Hp}
theorem same_new {q : Addr} {o : HO} (h : H q = none) : Same H (upd H q o) := fun b x e => by
  rw [upd_ne (ne_of_none e h)]
  exact e
theorem same_t {a : Addr} {xs : List V} (e : Same F F') (h : SqT K F a xs) : SqT K F' a xs := by
  rcases h with (h | ⟨o, h⟩) | h
  · exact .inl (.inl (e _ _ h))
  · exact .inl (.inr ⟨o, e _ _ h⟩)
  · exact .inr h
theorem Dt.mono (e : Same F F') {v : V} {d : PyData} (h : Dt K F v d) : Dt K F' v d :=
  Dt.rec (motive_1 := fun v d _ => Dt K F' v d) (motive_2 := fun vs ds _ => DtAll K F' vs ds) .non .bl .int .str (fun h _ ih => .lst (e _ _ h) ih) (fun h _ ih => .tup (same_t e h) ih) .nil (fun _ _ i j => .cons i j) h
theorem DtAll.mono (e : Same F F') : ∀ {vs : List V} {ds : List PyData}, DtAll K F vs ds → DtAll K F' vs ds
  | _, _, .nil => .nil
  | _, _, .cons h t => .cons (h.mono e) (DtAll.mono e t)
theorem Dt.dp {v : V} {d : PyData} (h : Dt K F v d) : Dp K F v d :=
  Dt.rec (motive_1 := fun v d _ => Dp K F v d) (motive_2 := fun vs ds _ => DpAll K F vs ds) .non .bl .int .str (fun h _ ih => .lst (.inl (.inl h)) ih) (fun h _ ih => .tup h ih) .nil (fun _ _ i j => .cons i j) h
theorem DtAll.length : ∀ {vs : List V} {ds : List PyData}, DtAll K F vs ds → vs.length = ds.length
  | _, _, .nil => rfl
  | _, _, .cons _ t => congrArg (· + 1) t.length
theorem DtAll.get : ∀ {vs : List V} {ds : List PyData} {i : Nat} {v : V}, DtAll K F vs ds → vs[i]? = some v → ∃ d, ds[i]? = some d ∧ Dt K F v d
  | _, _, _, _, .nil, e => by simp at e
  | _, _, 0, _, .cons h _, e => by simp at e; subst e; exact ⟨_, rfl, h⟩
  | _, _, i + 1, v, .cons _ t, e => by
    obtain ⟨d, h1, h2⟩ := DtAll.get (i := i) (v := v) t (by simpa using e)
    exact ⟨d, by simpa using h1, h2⟩
theorem DtAll.getD : ∀ {vs : List V} {ds : List PyData} {i : Nat} {d : PyData}, DtAll K F vs ds → ds[i]? = some d → ∃ v, vs[i]? = some v ∧ Dt K F v d
  | _, _, _, _, .nil, e => by simp at e
  | _, _, 0, _, .cons h _, e => by simp at e; subst e; exact ⟨_, rfl, h⟩
  | _, _, i + 1, d, .cons _ t, e => by
    obtain ⟨v, h1, h2⟩ := DtAll.getD (i := i) (d := d) t (by simpa using e)
    exact ⟨v, by simpa using h1, h2⟩
theorem DtAll.append : ∀ {vs ws : List V} {ds es : List PyData}, DtAll K F vs ds → DtAll K F ws es → DtAll K F (vs ++ ws) (ds ++ es)
  | _, _, _, _, .nil, s => s
  | _, _, _, _, .cons h t, s => .cons h (DtAll.append t s)
theorem DtAll.take : ∀ (n : Nat) {vs : List V} {ds : List PyData}, DtAll K F vs ds → DtAll K F (vs.take n) (ds.take n)
  | 0, _, _, _ => .nil
  | _ + 1, _, _, .nil => .nil
  | n + 1, _, _, .cons h t => .cons h (DtAll.take n t)
theorem DtAll.drop : ∀ (n : Nat) {vs : List V} {ds : List PyData}, DtAll K F vs ds → DtAll K F (vs.drop n) (ds.drop n)
  | 0, _, _, h => h
  | _ + 1, _, _, .nil => .nil
  | n + 1, _, _, .cons _ t => DtAll.drop n t

/-! ### what stands in a slot -/
inductive SV where
  | no
  | dat (d : PyData)
  | ptr (a : Addr)
  | scr (ns : List Int)
def SR (K : PySem.W.Frag) (F : Hp) (v : V) : SV → Prop
  | .no => False
  | .dat d => Dt K F v d
  | .ptr a => v = .ref a
  | .scr ns => ∃ a, v = .ref a ∧ SqL K F a (ns.map V.int)
def SO (K : PySem.W.Frag) (F : Hp) (o : Option V) (s : SV) : Prop := s = .no ∨ ∃ v, o = some v ∧ SR K F v s
abbrev SD (K : PySem.W.Frag) (F : Hp) : St → List SV → Prop := Paired (SO K F)
abbrev SRs (K : PySem.W.Frag) (F : Hp) : List V → List SV → Prop := Paired (SR K F)
theorem SR.mono (e : Same F F') {v : V} {s : SV} (h : SR K F v s) : SR K F' v s := by
  cases s with
  | no => exact h
  | dat d => exact Dt.mono e h
  | ptr a => exact h
  | scr ns =>
    obtain ⟨a, q, l⟩ := h
    exact ⟨a, q, e.seq l⟩
theorem SO.mono (e : Same F F') {o : Option V} {s : SV} (h : SO K F o s) : SO K F' o s := by
  rcases h with h | ⟨v, h, r⟩
  · exact .inl h
  · exact .inr ⟨v, h, r.mono e⟩
theorem SD.mono (e : Same F F') {σ : St} {S : List SV} (h : SD K F σ S) : SD K F' σ S := Paired.mono (fun _ _ q => SO.mono e q) h
theorem SRs.mono (e : Same F F') {vs : List V} {ss : List SV} (h : SRs K F vs ss) : SRs K F' vs ss := Paired.mono (fun _ _ q => SR.mono e q) h
theorem pget {α β : Type} {R : α → β → Prop} : ∀ {as : List α} {bs : List β} {i : Nat} {b : β}, Paired R as bs → bs[i]? = some b → ∃ a, as[i]? = some a ∧ R a b
  | _, _, _, _, .nil, e => by simp at e
  | _, _, 0, _, .cons h _, e => by simp at e; subst e; exact ⟨_, rfl, h⟩
  | _, _, i + 1, b, .cons _ t, e => by
    obtain ⟨a, h1, h2⟩ := pget (i := i) (b := b) t (by simpa using e)
    exact ⟨a, by simpa using h1, h2⟩
theorem pgetL {α β : Type} {R : α → β → Prop} : ∀ {as : List α} {bs : List β} {i : Nat} {a : α}, Paired R as bs → as[i]? = some a → ∃ b, bs[i]? = some b ∧ R a b
  | _, _, _, _, .nil, e => by simp at e
  | _, _, 0, _, .cons h _, e => by simp at e; subst e; exact ⟨_, rfl, h⟩
  | _, _, i + 1, a, .cons _ t, e => by
    obtain ⟨b, h1, h2⟩ := pgetL (i := i) (a := a) t (by simpa using e)
    exact ⟨b, by simpa using h1, h2⟩
theorem pset {α β : Type} {R : α → β → Prop} {a : α} {b : β} (r : R a b) : ∀ (i : Nat) {as : List α} {bs : List β}, Paired R as bs → Paired R (as.set i a) (bs.set i b)
  | _, _, _, .nil => .nil
  | 0, _, _, .cons _ t => .cons r t
  | i + 1, _, _, .cons q t => .cons q (pset r i t)
theorem papp {α β : Type} {R : α → β → Prop} : ∀ {as cs : List α} {bs ds : List β}, Paired R as bs → Paired R cs ds → Paired R (as ++ cs) (bs ++ ds)
  | _, _, _, _, .nil, s => s
  | _, _, _, _, .cons r t, s => .cons r (papp t s)
theorem SD.get {σ : St} {S : List SV} {i : Nat} {s : SV} (h : SD K F σ S) (e : S[i]? = some s) (n : s ≠ .no) : ∃ v, σ[i]? = some (some v) ∧ SR K F v s := by
  obtain ⟨o, h1, h2⟩ := pget h e
  rcases h2 with h2 | ⟨v, h2, r⟩
  · exact absurd h2 n
  · exact ⟨v, by rw [h1, h2], r⟩
theorem SD.put {σ : St} {S : List SV} {v : V} {s : SV} (h : SD K F σ S) (i : Nat) (r : SR K F v s) : SD K F (σ.set i (some v)) (S.set i s) := pset (.inr ⟨v, rfl, r⟩) i h
theorem SD.out {σ : St} {S : List SV} (h : SD K F σ S) (i : Nat) {o : Option V} : SD K F (σ.set i o) (S.set i .no) := pset (.inl rfl) i h
theorem SD.start (N : List Str) : ∀ {vs : List V} {ss : List SV}, SRs K F vs ss → SD K F (L2.start N vs) (ss ++ List.replicate (N.length - ss.length) .no) := by
  intro vs ss h
  have e : vs.length = ss.length := h.length
  show Paired (SO K F) (vs.map some ++ List.replicate (N.length - vs.length) none) _
  rw [e]
  refine papp ?_ ?_
  · induction h with
    | nil => exact .nil
    | cons r _ ih => exact .cons (.inr ⟨_, rfl, r⟩) (ih (by simpa using e))
  · generalize N.length - ss.length = n
    induction n with
    | zero => exact .nil
    | succ n ih => exact .cons (.inl rfl) ih

/-! ### what is owned -/
inductive Cell where
  | lst (xs : List SV)
  | dk (kvs : List (Key × SV))
  | dt (kvs : List (List Key × SV))
def KVR {κ : Type} (K : PySem.W.Frag) (F : Hp) : List (κ × V) → List (κ × SV) → Prop := Paired fun (a : κ × V) (b : κ × SV) => a.1 = b.1 ∧ SR K F a.2 b.2
def CellAt (K : PySem.W.Frag) (F H : Hp) (p : Addr) : Cell → Prop
  | .lst xs => ∃ vs, H p = some (.lst vs) ∧ SRs K F vs xs
  | .dk kvs => ∃ vs, H p = some (.dK vs) ∧ KVR K F vs kvs
  | .dt kvs => ∃ vs, H p = some (.dT vs) ∧ KVR K F vs kvs
theorem CellAt.mono {p : Addr} {c : Cell} (e : Same F F') (eh : H' p = H p) (h : CellAt K F H p c) : CellAt K F' H' p c := by
  cases c with
  | lst xs =>
    obtain ⟨vs, h1, h2⟩ := h
    exact ⟨vs, eh.trans h1, h2.mono e⟩
  | dk kvs =>
    obtain ⟨vs, h1, h2⟩ := h
    exact ⟨vs, eh.trans h1, Paired.mono (fun _ _ q => ⟨q.1, q.2.mono e⟩) h2⟩
  | dt kvs =>
    obtain ⟨vs, h1, h2⟩ := h
    exact ⟨vs, eh.trans h1, Paired.mono (fun _ _ q => ⟨q.1, q.2.mono e⟩) h2⟩
theorem CellAt.here {p : Addr} {c : Cell} (h : CellAt K F H p c) : H p ≠ none := by
  cases c <;> obtain ⟨vs, h1, h2⟩ := h <;> rw [h1] <;> simp
/-- a block of objects of which more is known than what stands there now -/
structure Blk where
  cs : List Addr
  G : Hp → Hp → Prop
  ext : ∀ {F F' H H' : Hp}, Same F F' → (∀ c ∈ cs, H' c = H c) → G F H → G F' H'
  here : ∀ {F H : Hp} {c : Addr}, G F H → c ∈ cs → H c ≠ none
def Blk.nil : Blk := ⟨[], fun _ _ => True, fun _ _ h => h, fun _ h => by simp at h⟩
structure Amb where
  I : Blk
  cells : List (Addr × Cell)
abbrev Amb.add (A : Amb) (p : Addr) (c : Cell) : Amb := ⟨A.I, (p, c) :: A.cells⟩
structure At (K : PySem.W.Frag) (A : Amb) (F H : Hp) : Prop where
  same : Same F H
  blk : A.I.G F H
  bfree : ∀ c ∈ A.I.cs, F c = none
  cell : ∀ p c, (p, c) ∈ A.cells → F p = none ∧ p ∉ A.I.cs ∧ CellAt K F H p c
  nd : (A.cells.map (·.1)).Nodup
inductive Upd : List (Addr × Cell) → Addr → Cell → Cell → List (Addr × Cell) → Prop
  | head {p : Addr} {c c' : Cell} {l : List (Addr × Cell)} : Upd ((p, c) :: l) p c c' ((p, c') :: l)
  | tail {x : Addr × Cell} {p : Addr} {c c' : Cell} {l l' : List (Addr × Cell)} : Upd l p c c' l' → Upd (x :: l) p c c' (x :: l')
inductive Rem : List (Addr × Cell) → Addr → Cell → List (Addr × Cell) → Prop
  | head {p : Addr} {c : Cell} {l : List (Addr × Cell)} : Rem ((p, c) :: l) p c l
  | tail {x : Addr × Cell} {p : Addr} {c : Cell} {l l' : List (Addr × Cell)} : Rem l p c l' → Rem (x :: l) p c (x :: l')
theorem Upd.names : ∀ {l l' : List (Addr × Cell)} {p : Addr} {c c' : Cell}, Upd l p c c' l' → l'.map (·.1) = l.map (·.1)
  | _, _, _, _, _, .head => rfl
  | _, _, _, _, _, .tail t => by simp [t.names]
theorem Upd.mem : ∀ {l l' : List (Addr × Cell)} {p : Addr} {c c' : Cell}, Upd l p c c' l' → (p, c) ∈ l
  | _, _, _, _, _, .head => List.mem_cons_self
  | _, _, _, _, _, .tail t => List.mem_cons_of_mem _ t.mem
theorem Upd.new : ∀ {l l' : List (Addr × Cell)} {p : Addr} {c c' : Cell}, Upd l p c c' l' → (l.map (·.1)).Nodup → ∀ q d, (q, d) ∈ l' → (q = p ∧ d = c') ∨ (q ≠ p ∧ (q, d) ∈ l)
  | _, _, p, _, c', .head (l := l), nd, q, d, h => by
    rcases List.mem_cons.mp h with h1 | h1
    · cases h1
      exact .inl ⟨rfl, rfl⟩
    · refine .inr ⟨fun e => ?_, List.mem_cons_of_mem _ h1⟩
      have n1 := (List.nodup_cons.mp nd).1
      exact n1 (List.mem_map.mpr ⟨(q, d), h1, e⟩)
  | _, _, p, _, c', .tail (x := x) (l := l) t, nd, q, d, h => by
    rcases List.mem_cons.mp h with h | h
    · refine .inr ⟨fun e => ?_, by rw [h]; exact List.mem_cons_self⟩
      have n1 := (List.nodup_cons.mp nd).1
      refine n1 (List.mem_map.mpr ⟨(p, _), t.mem, ?_⟩)
      rw [← h]
      exact e.symm
    · rcases t.new (List.nodup_cons.mp nd).2 q d h with k | ⟨k1, k2⟩
      · exact .inl k
      · exact .inr ⟨k1, List.mem_cons_of_mem _ k2⟩
theorem Rem.mem : ∀ {l l' : List (Addr × Cell)} {p : Addr} {c : Cell}, Rem l p c l' → (p, c) ∈ l
  | _, _, _, _, .head => List.mem_cons_self
  | _, _, _, _, .tail t => List.mem_cons_of_mem _ t.mem
theorem Rem.sub : ∀ {l l' : List (Addr × Cell)} {p : Addr} {c : Cell}, Rem l p c l' → l'.Sublist l
  | _, _, _, _, .head => List.sublist_cons_self _ _
  | _, _, _, _, .tail t => List.Sublist.cons_cons _ t.sub
theorem Rem.ne : ∀ {l l' : List (Addr × Cell)} {p : Addr} {c : Cell}, Rem l p c l' → (l.map (·.1)).Nodup → ∀ q d, (q, d) ∈ l' → q ≠ p
  | _, _, p, _, .head (l := l), nd, q, d, h, e => by
    subst e
    exact (List.nodup_cons.mp nd).1 (List.mem_map.mpr ⟨(q, d), h, rfl⟩)
  | _, _, p, _, .tail (x := x) t, nd, q, d, h, e => by
    rcases List.mem_cons.mp h with h | h
    · subst e
      refine (List.nodup_cons.mp nd).1 (List.mem_map.mpr ⟨(q, _), t.mem, ?_⟩)
      rw [← h]
    · exact t.ne (List.nodup_cons.mp nd).2 q d h e
section
variable {A : Amb}
theorem At.alloc {q : Addr} {o : HO} (a : At K A F H) (h : H q = none) : At K A (upd F q o) (upd H q o) ∧ Same F (upd F q o) := by
  have fq : F q = none := a.same.free h
  have s : Same F (upd F q o) := same_new fq
  refine ⟨⟨fun b u e => ?_, ?_, fun c hc => ?_, fun p c hp => ?_, a.nd⟩, s⟩
  · unfold upd at e ⊢
    split at e
    · rename_i hb
      rw [if_pos hb]
      exact e
    · rename_i hb
      rw [if_neg hb]
      exact a.same b u e
  · refine A.I.ext s (fun c hc => upd_ne fun e => ?_) a.blk
    exact A.I.here a.blk hc (by rw [e]; exact h)
  · rw [upd_ne fun e => A.I.here a.blk hc (by rw [e]; exact h)]
    exact a.bfree c hc
  · obtain ⟨h1, h2, h3⟩ := a.cell p c hp
    have ne : p ≠ q := fun e => h3.here (by rw [e]; exact h)
    exact ⟨by rw [upd_ne ne]; exact h1, h2, h3.mono s (upd_ne ne)⟩
theorem At.new {q : Addr} {o : HO} {c : Cell} (a : At K A F H) (h : H q = none) (hc : CellAt K F (upd H q o) q c) : At K (A.add q c) F (upd H q o) := by
  have fq : F q = none := a.same.free h
  refine ⟨a.same.trans (same_new h), ?_, a.bfree, fun p d hp => ?_, ?_⟩
  · exact A.I.ext (Same.refl F) (fun c hc => upd_ne fun e => A.I.here a.blk hc (by rw [e]; exact h)) a.blk
  · rcases List.mem_cons.mp hp with hp | hp
    · cases hp
      exact ⟨fq, fun hq => A.I.here a.blk hq h, hc⟩
    · obtain ⟨h1, h2, h3⟩ := a.cell p d hp
      have ne : p ≠ q := fun e => h3.here (by rw [e]; exact h)
      exact ⟨h1, h2, h3.mono (Same.refl F) (upd_ne ne)⟩
  · refine List.nodup_cons.mpr ⟨fun hq => ?_, a.nd⟩
    obtain ⟨⟨p, d⟩, hp, e⟩ := List.mem_map.mp hq
    obtain ⟨h1, h2, h3⟩ := a.cell p d hp
    have e' : p = q := e
    exact h3.here (by rw [e']; exact h)
theorem At.put {p : Addr} {c c' : Cell} {o : HO} {l' : List (Addr × Cell)} (a : At K A F H) (u : Upd A.cells p c c' l') (hc : CellAt K F (upd H p o) p c') : At K ⟨A.I, l'⟩ F (upd H p o) := by
  obtain ⟨f1, f2, f3⟩ := a.cell p c u.mem
  refine ⟨fun b x e => ?_, ?_, a.bfree, fun q d hq => ?_, by rw [u.names]; exact a.nd⟩
  · rw [upd_ne (ne_of_none e f1)]
    exact a.same b x e
  · exact A.I.ext (Same.refl F) (fun c hc => upd_ne fun e => f2 (by rw [← e]; exact hc)) a.blk
  · rcases u.new a.nd q d hq with ⟨e1, e2⟩ | ⟨e1, e2⟩
    · subst e1; subst e2
      exact ⟨f1, f2, hc⟩
    · obtain ⟨h1, h2, h3⟩ := a.cell q d e2
      exact ⟨h1, h2, h3.mono (Same.refl F) (upd_ne e1)⟩
theorem At.drop {p : Addr} {c : Cell} {l' : List (Addr × Cell)} (a : At K A F H) (r : Rem A.cells p c l') : At K ⟨A.I, l'⟩ F H :=
  ⟨a.same, a.blk, a.bfree, fun q d hq => a.cell q d (r.sub.subset hq), (r.sub.map _).nodup a.nd⟩
theorem srs_dats : ∀ {vs : List V} {ds : List PyData}, SRs K F vs (ds.map .dat) → DtAll K F vs ds
  | _, [], h => by
    have h' : SRs K F _ [] := h
    cases h'
    exact .nil
  | _, d :: ds, h => by
    have h' : SRs K F _ (.dat d :: ds.map .dat) := h
    cases h' with
    | cons r t => exact .cons r (srs_dats t)
theorem dats_srs : ∀ {vs : List V} {ds : List PyData}, DtAll K F vs ds → SRs K F vs (ds.map .dat)
  | _, _, .nil => .nil
  | _, _, .cons h t => .cons h (dats_srs t)
/-- an owned list becomes data -/
theorem At.frz {p : Addr} {ds : List PyData} {l' : List (Addr × Cell)} (a : At K A F H) (r : Rem A.cells p (.lst (ds.map .dat)) l') : ∃ F', Same F F' ∧ At K ⟨A.I, l'⟩ F' H ∧ Dt K F' (.ref p) (.list ds) := by
  obtain ⟨f1, f2, vs, f3, f4⟩ := a.cell p _ r.mem
  have s : Same F (upd F p (.lst vs)) := same_new f1
  refine ⟨upd F p (.lst vs), s, ⟨fun b u e => ?_, A.I.ext s (fun _ _ => rfl) a.blk, fun c hc => ?_, fun q d hq => ?_, (r.sub.map _).nodup a.nd⟩, .lst upd_same ((srs_dats f4).mono s)⟩
  · unfold upd at e
    split at e
    · rename_i hb
      rw [hb, f3]
      exact e
    · exact a.same b u e
  · rw [upd_ne fun e => f2 (by rw [← e]; exact hc)]
    exact a.bfree c hc
  · obtain ⟨h1, h2, h3⟩ := a.cell q d (r.sub.subset hq)
    have ne : q ≠ p := r.ne a.nd q d hq
    exact ⟨by rw [upd_ne ne]; exact h1, h2, h3.mono s rfl⟩
end
end
end DL

/-! The data layer's judgements: what a reading wants, told by data; a frame of owned cells goes along unseen. -/
namespace DL
open PySem L2

abbrev KA := Amb → SV → Prop
abbrev KS := Amb → List SV → Prop
abbrev AtR (K : PySem.W.Frag) (A : Amb) (R : List (Addr × Cell)) (F H : Hp) : Prop := At K ⟨A.I, A.cells ++ R⟩ F H
def OutV (K : PySem.W.Frag) (R : List (Addr × Cell)) (F : Hp) (Q : VK) (k : KA) : Prop := ∀ A s v F' H', k A s → Same F F' → AtR K A R F' H' → SR K F' v s → Q v H'
def OutB (K : PySem.W.Frag) (R : List (Addr × Cell)) (F : Hp) (Q : Bool → Hp → Prop) (k : Amb → Bool → Prop) : Prop := ∀ A b F' H', k A b → Same F F' → AtR K A R F' H' → Q b H'
def OutL (K : PySem.W.Frag) (R : List (Addr × Cell)) (F : Hp) (Q : List V → Hp → Prop) (k : KS) : Prop := ∀ A ss vs F' H', k A ss → Same F F' → AtR K A R F' H' → SRs K F' vs ss → Q vs H'
def OutS (K : PySem.W.Frag) (R : List (Addr × Cell)) (F : Hp) (Q : St → Hp → Prop) (k : KS) : Prop := ∀ A S F' σ' H', k A S → Same F F' → AtR K A R F' H' → SD K F' σ' S → Q σ' H'
section
variable {K : PySem.W.Frag} {R : List (Addr × Cell)} {F F' : Hp}
theorem OutV.mono {Q : VK} {k : KA} (e : Same F F') (q : OutV K R F Q k) : OutV K R F' Q k := fun A s v F2 H2 hk e2 a r => q A s v F2 H2 hk (e.trans e2) a r
theorem OutB.mono {Q : Bool → Hp → Prop} {k : Amb → Bool → Prop} (e : Same F F') (q : OutB K R F Q k) : OutB K R F' Q k := fun A b F2 H2 hk e2 a => q A b F2 H2 hk (e.trans e2) a
theorem OutL.mono {Q : List V → Hp → Prop} {k : KS} (e : Same F F') (q : OutL K R F Q k) : OutL K R F' Q k := fun A s v F2 H2 hk e2 a r => q A s v F2 H2 hk (e.trans e2) a r
theorem OutS.mono {Q : St → Hp → Prop} {k : KS} (e : Same F F') (q : OutS K R F Q k) : OutS K R F' Q k := fun A s v F2 H2 hk e2 a r => q A s v F2 H2 hk (e.trans e2) a r
end
def Wp (K : PySem.W.Frag) (A : Amb) (te : TE) (S : List SV) (k : KA) : Prop := ∀ R F σ H Q, AtR K A R F H → SD K F σ S → OutV K R F Q k → te σ H Q
def WpT (K : PySem.W.Frag) (A : Amb) (tt : TT) (S : List SV) (k : Amb → Bool → Prop) : Prop := ∀ R F σ H Q, AtR K A R F H → SD K F σ S → OutB K R F Q k → tt σ H Q
def WpA (K : PySem.W.Frag) (A : Amb) (ta : TA) (S : List SV) (k : KS) : Prop := ∀ R F σ H Q, AtR K A R F H → SD K F σ S → OutL K R F Q k → ta σ H Q
def RW (K : PySem.W.Frag) (r : R2) (s1 s2 : SV) (A : Amb) (k : KA) : Prop := ∀ R F H v w Q, AtR K A R F H → SR K F v s1 → SR K F w s2 → OutV K R F Q k → r v w H Q
def UW (K : PySem.W.Frag) (r : V → Hp → VK → Prop) (s : SV) (A : Amb) (k : KA) : Prop := ∀ R F H v Q, AtR K A R F H → SR K F v s → OutV K R F Q k → r v H Q
def CW (K : PySem.W.Frag) (r : List V → Hp → VK → Prop) (ss : List SV) (A : Amb) (k : KA) : Prop := ∀ R F H vs Q, AtR K A R F H → SRs K F vs ss → OutV K R F Q k → r vs H Q
def GW (K : PySem.W.Frag) (g : TG) (s : SV) (S : List SV) (A : Amb) (k : KS) : Prop := ∀ R F σ H v Q, AtR K A R F H → SD K F σ S → SR K F v s → OutS K R F Q k → g v σ H Q
def GWs (K : PySem.W.Frag) (g : TGs) (ss : List SV) (S : List SV) (A : Amb) (k : KS) : Prop := ∀ R F σ H vs Q, AtR K A R F H → SD K F σ S → SRs K F vs ss → OutS K R F Q k → g vs σ H Q
structure DE where
  nx : KS
  bk : KS
  ct : KS
  rt : KA
@[reducible] def DE.seq (E : DE) (f : KS) : DE := ⟨f, E.bk, E.ct, E.rt⟩
@[reducible] def DE.loop (E : DE) (f : KS) : DE := ⟨f, E.nx, f, E.rt⟩
structure OutE (K : PySem.W.Frag) (R : List (Addr × Cell)) (F : Hp) (D : Ends) (E : DE) : Prop where
  nx : OutS K R F D.nx E.nx
  bk : OutS K R F D.bk E.bk
  ct : OutS K R F D.ct E.ct
  rt : OutV K R F D.rt E.rt
theorem OutE.mono {K : PySem.W.Frag} {R : List (Addr × Cell)} {F F' : Hp} {D : Ends} {E : DE} (e : Same F F') (o : OutE K R F D E) : OutE K R F' D E := ⟨o.nx.mono e, o.bk.mono e, o.ct.mono e, o.rt.mono e⟩
def Go (K : PySem.W.Frag) (A : Amb) (ts : TS) (S : List SV) (E : DE) : Prop := ∀ R F σ H D, AtR K A R F H → SD K F σ S → OutE K R F D E → ts D σ H

def datOf : SV → Option PyData
  | .dat d => some d
  | _ => none
def datsOf : List SV → Option (List PyData)
  | [] => some []
  | .dat d :: r => match datsOf r with
    | some ds => some (d :: ds)
    | none => none
  | _ :: _ => none
theorem datsOf_eq : ∀ {ss : List SV} {ds : List PyData}, datsOf ss = some ds → ss = ds.map .dat
  | [], ds, h => by
    have h' : some [] = some ds := h
    cases h'
    rfl
  | .dat d :: r, ds, h => by
    unfold datsOf at h
    cases e : datsOf r with
    | none => rw [e] at h; cases h
    | some es =>
      rw [e] at h
      cases h
      rw [datsOf_eq e]
      rfl
  | .no :: _, _, h => by cases h
  | .ptr _ :: _, _, h => by cases h
  | .scr _ :: _, _, h => by cases h

section
variable {K : PySem.W.Frag} {A A' : Amb} {S S' : List SV} {k k' : KA} {ta tb te : TE} {t u : TT} {r : R2} {s s1 s2 : SV}
theorem SR.noN {F : Hp} {v : V} (h : SR K F v s) : s ≠ .no := fun e => by subst e; exact h
theorem Wp.imp (h : Wp K A te S k) (i : ∀ A s, k A s → k' A s) : Wp K A te S k' := fun R F σ H Q a sd q => h R F σ H Q a sd fun A1 s v F1 H1 hk => q A1 s v F1 H1 (i _ _ hk)
theorem WpT.imp {k k' : Amb → Bool → Prop} (h : WpT K A t S k) (i : ∀ A b, k A b → k' A b) : WpT K A t S k' := fun R F σ H Q a sd q => h R F σ H Q a sd fun A1 b F1 H1 hk => q A1 b F1 H1 (i _ _ hk)

/-! ### expressions -/
theorem wp_var {i : Nat} (e : S[i]? = some s) (n : s ≠ .no) (h : k A s) : Wp K A (tVar i) S k := fun R F σ H Q a sd q => by
  obtain ⟨v, h1, h2⟩ := sd.get e n
  exact ⟨v, h1, q A s v F H h (Same.refl F) a h2⟩
theorem wp_vd {i : Nat} {d : PyData} (e : S[i]? = some (.dat d)) (h : k A (.dat d)) : Wp K A (tVar i) S k := wp_var e (by intro z; cases z) h
theorem wp_vp {i : Nat} {p : Addr} (e : S[i]? = some (.ptr p)) (h : k A (.ptr p)) : Wp K A (tVar i) S k := wp_var e (by intro z; cases z) h
theorem wp_vs {i : Nat} {ns : List Int} (e : S[i]? = some (.scr ns)) (h : k A (.scr ns)) : Wp K A (tVar i) S k := wp_var e (by intro z; cases z) h
theorem wp_c {v : V} {d : PyData} (hd : Dt K (fun _ => none) v d) (h : k A (.dat d)) : Wp K A (tC v) S k := fun R F σ H Q a sd q =>
  q A _ v F H h (Same.refl F) a (hd.mono fun _ _ z => by cases z)
theorem wp_ci {i : Int} (h : k A (.dat (.int i))) : Wp K A (tC (.int i)) S k := wp_c (.int i) h
theorem wp_cb {b : Bool} (h : k A (.dat (.bool b))) : Wp K A (tC (.bl b)) S k := wp_c (.bl b) h
theorem wp_cn (h : k A (.dat .none)) : Wp K A (tC .non) S k := wp_c .non h
theorem wp_cs {x : Str} (h : k A (.dat (.str x))) : Wp K A (tC (.str x)) S k := wp_c (.str x) h
theorem wp_op (h : Wp K A ta S fun A1 s1 => Wp K A1 tb S fun A2 s2 => RW K r s1 s2 A2 k) : Wp K A (tOp r ta tb) S k := fun R F σ H Q a sd q =>
  h R F σ H _ a sd fun A1 s1 v F1 H1 h1 e1 a1 r1 => h1 R F1 σ H1 _ a1 (sd.mono e1) fun A2 s2 w F2 H2 h2 e2 a2 r2 => h2 R F2 H2 v w Q a2 (r1.mono e2) r2 (q.mono (e1.trans e2))
theorem wp_un {r : V → Hp → VK → Prop} (h : Wp K A ta S fun A1 s1 => UW K r s1 A1 k) : Wp K A (tUn r ta) S k := fun R F σ H Q a sd q =>
  h R F σ H _ a sd fun A1 s1 v F1 H1 h1 e1 a1 r1 => h1 R F1 H1 v Q a1 r1 (q.mono e1)
theorem wpa_nil {k : KS} (h : k A []) : WpA K A tNil S k := fun R F σ H Q a sd q => q A [] [] F H h (Same.refl F) a .nil
theorem wpa_cons {tr : TA} {k : KS} (h : Wp K A te S fun A1 s => WpA K A1 tr S fun A2 ss => k A2 (s :: ss)) : WpA K A (tCons te tr) S k := fun R F σ H Q a sd q =>
  h R F σ H _ a sd fun A1 s1 v F1 H1 h1 e1 a1 r1 => h1 R F1 σ H1 _ a1 (sd.mono e1) fun A2 ss vs F2 H2 h2 e2 a2 r2 => q A2 _ _ F2 H2 h2 (e1.trans e2) a2 (.cons (r1.mono e2) r2)
theorem wp_cb_call {r : List V → Hp → VK → Prop} {ta : TA} (h : WpA K A ta S fun A1 ss => CW K r ss A1 k) : Wp K A (tCB r ta) S k := fun R F σ H Q a sd q =>
  h R F σ H _ a sd fun A1 ss vs F1 H1 h1 e1 a1 r1 => h1 R F1 H1 vs Q a1 r1 (q.mono e1)
theorem AtR.alloc {R : List (Addr × Cell)} {F H : Hp} {q : Addr} {o : HO} (a : AtR K A R F H) (h : H q = none) : AtR K A R (upd F q o) (upd H q o) ∧ Same F (upd F q o) := At.alloc a h
theorem AtR.new {R : List (Addr × Cell)} {F H : Hp} {q : Addr} {o : HO} {c : Cell} (a : AtR K A R F H) (h : H q = none) (hc : CellAt K F (upd H q o) q c) : AtR K (A.add q c) R F (upd H q o) := At.new (A := ⟨A.I, A.cells ++ R⟩) a h hc
theorem wp_tup {ta : TA} (h : WpA K A ta S fun A1 ss => ∃ ds, datsOf ss = some ds ∧ ds.length ≤ sizeLine ∧ k A1 (.dat (.tuple ds))) : Wp K A (tTup ta) S k := fun R F σ H Q a sd q =>
  h R F σ H _ a sd fun A1 ss vs F1 H1 ⟨ds, h1, h2, h3⟩ e1 a1 r1 => by
    rw [datsOf_eq h1] at r1
    have rd := srs_dats r1
    refine ⟨by rw [rd.length]; exact h2, fun p hp => ?_⟩
    obtain ⟨a2, e2⟩ := a1.alloc (o := .tup vs) hp
    exact q A1 _ _ _ _ h3 (e1.trans e2) a2 (.tup (SqT.of upd_same) (rd.mono e2))
/-- a new list, as data -/
theorem wp_lst {ta : TA} (h : WpA K A ta S fun A1 ss => ∃ ds, datsOf ss = some ds ∧ ds.length ≤ sizeLine ∧ k A1 (.dat (.list ds))) : Wp K A (tLst ta) S k := fun R F σ H Q a sd q =>
  h R F σ H _ a sd fun A1 ss vs F1 H1 ⟨ds, h1, h2, h3⟩ e1 a1 r1 => by
    rw [datsOf_eq h1] at r1
    have rd := srs_dats r1
    refine ⟨by rw [rd.length]; exact h2, fun p hp => ?_⟩
    obtain ⟨a2, e2⟩ := a1.alloc (o := .lst vs) hp
    exact q A1 _ _ _ _ h3 (e1.trans e2) a2 (.lst upd_same (rd.mono e2))
/-- a new list, one's own -/
theorem wp_lstO {ta : TA} (h : WpA K A ta S fun A1 ss => ss.length ≤ sizeLine ∧ ∀ p, k (A1.add p (.lst ss)) (.ptr p)) : Wp K A (tLst ta) S k := fun R F σ H Q a sd q =>
  h R F σ H _ a sd fun A1 ss vs F1 H1 ⟨h1, h2⟩ e1 a1 r1 => by
    refine ⟨by rw [r1.length]; exact h1, fun p hp => ?_⟩
    exact q _ _ _ _ _ (h2 p) e1 (a1.new hp ⟨vs, upd_same, r1⟩) rfl
theorem Rem.app {l l' R : List (Addr × Cell)} {p : Addr} {c : Cell} (h : Rem l p c l') : Rem (l ++ R) p c (l' ++ R) := by
  induction h with
  | head => exact .head
  | tail _ ih => exact .tail ih
/-- an owned list that a reading leaves becomes data -/
theorem wp_frz (h : Wp K A te S fun A1 s => ∃ p ds l', s = .ptr p ∧ Rem A1.cells p (.lst (ds.map .dat)) l' ∧ k ⟨A1.I, l'⟩ (.dat (.list ds))) : Wp K A te S k := fun R F σ H Q a sd q =>
  h R F σ H _ a sd fun A1 s v F1 H1 ⟨p, ds, l', hs, hr, hk⟩ e1 a1 r1 => by
    subst hs
    obtain rfl : v = .ref p := r1
    obtain ⟨F2, e2, a2, d2⟩ := At.frz (A := ⟨A1.I, A1.cells ++ R⟩) a1 hr.app
    exact q _ _ _ _ _ hk (e1.trans e2) a2 d2
theorem Upd.app {l l' R : List (Addr × Cell)} {p : Addr} {c c' : Cell} (h : Upd l p c c' l') : Upd (l ++ R) p c c' (l' ++ R) := by
  induction h with
  | head => exact .head
  | tail _ ih => exact .tail ih
theorem AtR.cell {R : List (Addr × Cell)} {F H : Hp} {p : Addr} {c : Cell} (a : AtR K A R F H) (h : (p, c) ∈ A.cells) : CellAt K F H p c := (At.cell a p c (List.mem_append_left _ h)).2.2
theorem AtR.put {R : List (Addr × Cell)} {F H : Hp} {p : Addr} {c c' : Cell} {o : HO} {l' : List (Addr × Cell)} (a : AtR K A R F H) (u : Upd A.cells p c c' l') (hc : CellAt K F (upd H p o) p c') : AtR K ⟨A.I, l'⟩ R F (upd H p o) := At.put (A := ⟨A.I, A.cells ++ R⟩) a u.app hc
theorem AtR.drop {R : List (Addr × Cell)} {F H : Hp} {p : Addr} {c : Cell} {l' : List (Addr × Cell)} (a : AtR K A R F H) (u : Rem A.cells p c l') : AtR K ⟨A.I, l'⟩ R F H := At.drop (A := ⟨A.I, A.cells ++ R⟩) a u.app
/-- an owned object that is left behind -/
theorem wp_drop (h : Wp K A te S fun A1 s => ∃ p c l', Rem A1.cells p c l' ∧ k ⟨A1.I, l'⟩ s) : Wp K A te S k := fun R F σ H Q a sd q =>
  h R F σ H _ a sd fun A1 s v F1 H1 ⟨p, c, l', hr, hk⟩ e1 a1 r1 => q _ _ _ _ _ hk e1 (a1.drop hr) r1

theorem wp_if (h : WpT K A t S fun A1 b => (b = true → Wp K A1 ta S k) ∧ (b = false → Wp K A1 tb S k)) : Wp K A (tIf t ta tb) S k := fun R F σ H Q a sd q =>
  h R F σ H _ a sd fun A1 b F1 H1 h1 e1 a1 => by
    cases b with
    | true => exact h1.1 rfl R F1 σ H1 Q a1 (sd.mono e1) (q.mono e1)
    | false => exact h1.2 rfl R F1 σ H1 Q a1 (sd.mono e1) (q.mono e1)
theorem sr_bl {F : Hp} {v : V} {b : Bool} (h : SR K F v (.dat (.bool b))) : v = .bl b := by
  have h' : Dt K F v (.bool b) := h
  cases h'
  rfl
theorem sr_int {F : Hp} {v : V} {b : Int} (h : SR K F v (.dat (.int b))) : v = .int b := by
  have h' : Dt K F v (.int b) := h
  cases h'
  rfl
theorem sr_str {F : Hp} {v : V} {b : Str} (h : SR K F v (.dat (.str b))) : v = .str b := by
  have h' : Dt K F v (.str b) := h
  cases h'
  rfl
theorem sr_non {F : Hp} {v : V} (h : SR K F v (.dat .none)) : v = .non := by
  have h' : Dt K F v .none := h
  cases h'
  rfl
theorem sr_lst {F : Hp} {v : V} {ds : List PyData} (h : SR K F v (.dat (.list ds))) : ∃ a xs, v = .ref a ∧ F a = some (.lst xs) ∧ DtAll K F xs ds := by
  have h' : Dt K F v (.list ds) := h
  cases h' with
  | lst h1 h2 => exact ⟨_, _, rfl, h1, h2⟩
theorem sr_tup {F : Hp} {v : V} {ds : List PyData} (h : SR K F v (.dat (.tuple ds))) : ∃ a xs, v = .ref a ∧ SqT K F a xs ∧ DtAll K F xs ds := by
  have h' : Dt K F v (.tuple ds) := h
  cases h' with
  | tup h1 h2 => exact ⟨_, _, rfl, h1, h2⟩

/-! ### tests -/
theorem wpt_test {k : Amb → Bool → Prop} (h : Wp K A te S fun A1 s => ∃ b, s = .dat (.bool b) ∧ k A1 b) : WpT K A (tTest te) S k := fun R F σ H Q a sd q =>
  h R F σ H _ a sd fun A1 s v F1 H1 ⟨b, hb, hk⟩ e1 a1 r1 => by
    subst hb
    exact ⟨b, sr_bl r1, q A1 b F1 H1 hk e1 a1⟩
theorem wpt_b {k : Amb → Bool → Prop} (h : Wp K A te S fun A1 s => ∃ b, s = .dat (.bool b) ∧ k A1 b) : WpT K A (tB te) S k := fun R F σ H Q a sd q =>
  h R F σ H _ a sd fun A1 s v F1 H1 ⟨b, hb, hk⟩ e1 a1 r1 => by
    subst hb
    exact ⟨b, sr_bl r1, q A1 b F1 H1 hk e1 a1⟩
theorem wpt_and {k : Amb → Bool → Prop} (h : WpT K A t S fun A1 b => (b = true → WpT K A1 u S k) ∧ (b = false → k A1 false)) : WpT K A (tAnd t u) S k := fun R F σ H Q a sd q =>
  h R F σ H _ a sd fun A1 b F1 H1 h1 e1 a1 => by
    cases b with
    | true => exact h1.1 rfl R F1 σ H1 Q a1 (sd.mono e1) (q.mono e1)
    | false => exact q A1 false F1 H1 (h1.2 rfl) e1 a1
theorem wpt_or {k : Amb → Bool → Prop} (h : WpT K A t S fun A1 b => (b = true → k A1 true) ∧ (b = false → WpT K A1 u S k)) : WpT K A (tOr t u) S k := fun R F σ H Q a sd q =>
  h R F σ H _ a sd fun A1 b F1 H1 h1 e1 a1 => by
    cases b with
    | true => exact q A1 true F1 H1 (h1.1 rfl) e1 a1
    | false => exact h1.2 rfl R F1 σ H1 Q a1 (sd.mono e1) (q.mono e1)
theorem wpt_not {k : Amb → Bool → Prop} (h : WpT K A t S fun A1 b => k A1 (!b)) : WpT K A (tNot t) S k := fun R F σ H Q a sd q =>
  h R F σ H _ a sd fun A1 b F1 H1 h1 e1 a1 => q A1 (!b) F1 H1 h1 e1 a1
theorem wpt_yes {k : Amb → Bool → Prop} (h : k A true) : WpT K A tYes S k := fun R F σ H Q a sd q => q A true F H h (Same.refl F) a
theorem wp_andV (h : Wp K A ta S fun A1 s => ∃ b, s = .dat (.bool b) ∧ (b = true → Wp K A1 tb S k) ∧ (b = false → k A1 (.dat (.bool false)))) : Wp K A (tAndV ta tb) S k := fun R F σ H Q a sd q =>
  h R F σ H _ a sd fun A1 s v F1 H1 ⟨b, hb, h1⟩ e1 a1 r1 => by
    subst hb
    refine ⟨b, sr_bl r1, ?_⟩
    cases b with
    | true => exact h1.1 rfl R F1 σ H1 Q a1 (sd.mono e1) (q.mono e1)
    | false => exact q A1 _ _ F1 H1 (h1.2 rfl) e1 a1 (.bl false)
theorem wp_orV (h : Wp K A ta S fun A1 s => ∃ b, s = .dat (.bool b) ∧ (b = true → k A1 (.dat (.bool true))) ∧ (b = false → Wp K A1 tb S k)) : Wp K A (tOrV ta tb) S k := fun R F σ H Q a sd q =>
  h R F σ H _ a sd fun A1 s v F1 H1 ⟨b, hb, h1⟩ e1 a1 r1 => by
    subst hb
    refine ⟨b, sr_bl r1, ?_⟩
    cases b with
    | true => exact q A1 _ _ F1 H1 (h1.1 rfl) e1 a1 (.bl true)
    | false => exact h1.2 rfl R F1 σ H1 Q a1 (sd.mono e1) (q.mono e1)
theorem wp_notV (h : Wp K A ta S fun A1 s => ∃ b, s = .dat (.bool b) ∧ k A1 (.dat (.bool (!b)))) : Wp K A (tNotV ta) S k := fun R F σ H Q a sd q =>
  h R F σ H _ a sd fun A1 s v F1 H1 ⟨b, hb, h1⟩ e1 a1 r1 => by
    subst hb
    exact ⟨b, sr_bl r1, q A1 _ _ F1 H1 h1 e1 a1 (.bl _)⟩

/-! ### targets -/
theorem gw_name {i : Nat} {k : KS} (h : k A (S.set i s)) : GW K (gName i) s S A k := fun R F σ H v Q a sd r q => q A _ F _ H h (Same.refl F) a (sd.put i r)
theorem gws_nil {k : KS} (h : k A S) : GWs K gNil [] S A k := fun R F σ H vs Q a sd r q => by
  cases r
  exact ⟨rfl, q A S F σ H h (Same.refl F) a sd⟩
theorem gws_cons {g : TG} {u : TGs} {ss : List SV} {k : KS} (h : GW K g s S A fun A1 S1 => GWs K u ss S1 A1 k) : GWs K (gCons g u) (s :: ss) S A k := fun R F σ H vs Q a sd r q => by
  cases r with
  | cons r1 r2 =>
    exact ⟨_, _, rfl, h R F σ H _ _ a sd r1 fun A1 S1 F1 σ1 H1 h1 e1 a1 sd1 => h1 R F1 σ1 H1 _ Q a1 sd1 (SRs.mono e1 r2) (q.mono e1)⟩
theorem gw_tup {n : Nat} {u : TGs} {ds : List PyData} {k : KS} (hn : ds.length = n) (h : GWs K u (ds.map .dat) S A k) : GW K (gTup K n u) (.dat (.tuple ds)) S A k := fun R F σ H v Q a sd r q => by
  obtain ⟨p, xs, rfl, h1, h2⟩ := sr_tup r
  exact ⟨p, xs, rfl, same_t a.same h1, by rw [h2.length]; exact hn, h R F σ H xs Q a sd (dats_srs h2) q⟩

/-! ### statements -/
variable {E : DE} {tu tw : TS}
theorem go_seq (h : Go K A tu S (E.seq fun A1 S1 => Go K A1 tw S1 E)) : Go K A (tSeq tu tw) S E := fun R F σ H D a sd o =>
  h R F σ H _ a sd ⟨fun A1 S1 F1 σ1 H1 h1 e1 a1 sd1 => h1 R F1 σ1 H1 D a1 sd1 (o.mono e1), o.bk, o.ct, o.rt⟩
theorem go_next (h : E.nx A S) : Go K A tNext S E := fun R F σ H D a sd o => o.nx A S F σ H h (Same.refl F) a sd
theorem go_break (h : E.bk A S) : Go K A tBreak S E := fun R F σ H D a sd o => o.bk A S F σ H h (Same.refl F) a sd
theorem go_cont (h : E.ct A S) : Go K A tCont S E := fun R F σ H D a sd o => o.ct A S F σ H h (Same.refl F) a sd
theorem go_drop (h : Wp K A te S fun A1 _ => E.nx A1 S) : Go K A (tDrop te) S E := fun R F σ H D a sd o =>
  h R F σ H _ a sd fun A1 s v F1 H1 h1 e1 a1 _ => o.nx A1 S F1 σ H1 h1 e1 a1 (sd.mono e1)
theorem go_ret (h : Wp K A te S E.rt) : Go K A (tRet te) S E := fun R F σ H D a sd o => h R F σ H _ a sd o.rt
theorem go_retN (h : E.rt A (.dat .none)) : Go K A tRetN S E := fun R F σ H D a sd o => o.rt A _ _ F H h (Same.refl F) a .non
theorem go_if (h : WpT K A t S fun A1 b => (b = true → Go K A1 tu S E) ∧ (b = false → Go K A1 tw S E)) : Go K A (tIfS t tu tw) S E := fun R F σ H D a sd o =>
  h R F σ H _ a sd fun A1 b F1 H1 h1 e1 a1 => by
    cases b with
    | true => exact h1.1 rfl R F1 σ H1 D a1 (sd.mono e1) (o.mono e1)
    | false => exact h1.2 rfl R F1 σ H1 D a1 (sd.mono e1) (o.mono e1)
theorem go_asg {g : TG} (h : Wp K A te S fun A1 s => GW K g s S A1 E.nx) : Go K A (tAsg te g) S E := fun R F σ H D a sd o =>
  h R F σ H _ a sd fun A1 s v F1 H1 h1 e1 a1 r1 => h1 R F1 σ H1 v _ a1 (sd.mono e1) r1 (o.nx.mono e1)
/-- name = e -/
theorem go_set {i : Nat} (h : Wp K A te S fun A1 s => E.nx A1 (S.set i s)) : Go K A (tAsg te (gName i)) S E := go_asg (h.imp fun _ _ q => gw_name q)
theorem go_par {i j : Nat} {ta : TA} (h : WpA K A ta S fun A1 ss => ∃ a b, ss = [a, b] ∧ E.nx A1 ((S.set i a).set j b)) : Go K A (tPar i j ta) S E := fun R F σ H D a sd o =>
  h R F σ H _ a sd fun A1 ss vs F1 H1 ⟨x, y, hs, hk⟩ e1 a1 r1 => by
    subst hs
    cases r1 with
    | cons q1 r2 =>
      cases r2 with
      | cons q2 r3 =>
        cases r3
        exact ⟨_, _, rfl, o.nx _ _ _ _ _ hk e1 a1 (((sd.mono e1).put i q1).put j q2)⟩
theorem go_aug {i : Nat} {f : Int → Int → Int} {x : Int} (e : S[i]? = some (.dat (.int x))) (h : Wp K A te S fun A1 s => ∃ y, s = .dat (.int y) ∧ E.nx A1 (S.set i (.dat (.int (f x y))))) : Go K A (tAug i te (ipI f)) S E := fun R F σ H D a sd o => by
  obtain ⟨v, h1, h2⟩ := sd.get e (by intro z; cases z)
  obtain rfl := sr_int h2
  refine ⟨.int x, h1, h R F σ H _ a sd fun A1 s w F1 H1 ⟨y, hs, hk⟩ e1 a1 r1 => ?_⟩
  subst hs
  obtain rfl := sr_int r1
  exact ⟨x, y, rfl, rfl, o.nx _ _ _ _ _ hk e1 a1 ((sd.mono e1).put i (.int _))⟩
/-- what is known of a slot may be turned: an owned list becomes data -/
theorem go_frz {i : Nat} {p : Addr} {ds : List PyData} {l' : List (Addr × Cell)} (e : S[i]? = some (.ptr p)) (hr : Rem A.cells p (.lst (ds.map .dat)) l') (h : Go K ⟨A.I, l'⟩ tu (S.set i (.dat (.list ds))) E) : Go K A tu S E := fun R F σ H D a sd o => by
  obtain ⟨v, h1, h2⟩ := sd.get e (by intro z; cases z)
  obtain rfl : v = .ref p := h2
  obtain ⟨F2, e2, a2, d2⟩ := At.frz (A := ⟨A.I, A.cells ++ R⟩) a hr.app
  have sd2 := (sd.mono e2).put i (s := .dat (.list ds)) d2
  have es : σ.set i (some (.ref p)) = σ := by
    refine List.ext_getElem? fun j => ?_
    by_cases hj : i = j
    · subst hj
      rw [List.getElem?_set_self (List.getElem?_eq_some_iff.mp h1).1]
      exact h1.symm
    · rw [List.getElem?_set_ne hj]
  rw [es] at sd2
  exact h R F2 σ H D a2 sd2 (o.mono e2)
theorem go_loss {p : Addr} {c : Cell} {l' : List (Addr × Cell)} (hr : Rem A.cells p c l') (h : Go K ⟨A.I, l'⟩ tu S E) : Go K A tu S E := fun R F σ H D a sd o => h R F σ H D (a.drop hr) sd o
end
end DL

/-! The data layer: what loops walk, loops, comprehensions, defs. -/
namespace DL
open PySem L2

/-- what an iterator yields, turn by turn -/
def Src (K : PySem.W.Frag) (F : Hp) (J : It) (xs : List SV) : Prop := ∀ A F' H i, Same F F' → At K A F' H →
  (xs.length ≤ i → J.stop i H) ∧ (∀ s, xs[i]? = some s → J.go i H ∧ ∀ x H', J.yld i H x H' → ∃ F'', Same F' F'' ∧ At K A F'' H' ∧ SR K F'' x s)
def IW (K : PySem.W.Frag) (A : Amb) (wi : TI) (S : List SV) (k : KS) : Prop := ∀ R F σ H Q, AtR K A R F H → SD K F σ S →
  (∀ A1 xs F1 H1 J, k A1 xs → Same F F1 → AtR K A1 R F1 H1 → Src K F1 J xs → Q J H1) → wi σ H Q
def irange (lo : Int) (n : Nat) : List SV := (List.range n).map fun (i : Nat) => .dat (.int (lo + i))
theorem irange_length (lo : Int) (n : Nat) : (irange lo n).length = n := by simp [irange]
theorem irange_get {lo : Int} {n i : Nat} {s : SV} (h : (irange lo n)[i]? = some s) : i < n ∧ s = .dat (.int (lo + i)) := by
  have hi : i < n := by
    have := (List.getElem?_eq_some_iff.mp h).1
    rwa [irange_length] at this
  refine ⟨hi, ?_⟩
  unfold irange at h
  rw [List.getElem?_map, List.getElem?_range hi] at h
  exact (Option.some.inj h).symm
section
variable {K : PySem.W.Frag} {A A' : Amb} {S S' : List SV} {ta tb te tl : TE} {t u : TT} {s s1 s2 : SV} {E : DE} {tu tw : TS} {g : TG} {wi wi1 : TI}
theorem src_list {F : Hp} {a : Addr} {xs : List V} {ss : List SV} (h : SqL K F a xs) (r : SRs K F xs ss) : Src K F (Itl K a) ss := fun A F' H i e at' => by
  have hH : SqL K H a xs := (e.trans at'.same).seq h
  refine ⟨fun hi => ⟨xs, hH, by rw [r.length]; exact hi⟩, fun s hs => ?_⟩
  obtain ⟨v, h1, h2⟩ := pget r hs
  refine ⟨⟨xs, v, hH, h1⟩, fun x H' y => ?_⟩
  obtain ⟨rfl, y⟩ := y
  have q := y xs hH
  rw [h1] at q
  cases q
  exact ⟨F', Same.refl F', at', h2.mono e⟩
theorem src_tup {F : Hp} {a : Addr} {xs : List V} {ss : List SV} (h : SqT K F a xs) (r : SRs K F xs ss) : Src K F (Itt K a) ss := fun A F' H i e at' => by
  have hH : SqT K H a xs := same_t (e.trans at'.same) h
  refine ⟨fun hi => ⟨xs, hH, by rw [r.length]; exact hi⟩, fun s hs => ?_⟩
  obtain ⟨v, h1, h2⟩ := pget r hs
  refine ⟨⟨xs, v, hH, h1⟩, fun x H' y => ?_⟩
  obtain ⟨rfl, y⟩ := y
  have q := y xs hH
  rw [h1] at q
  cases q
  exact ⟨F', Same.refl F', at', h2.mono e⟩
theorem iw_list {k : KS} (h : Wp K A tl S fun A1 s => ∃ ds, s = .dat (.list ds) ∧ k A1 (ds.map .dat)) : IW K A (iList K tl) S k := fun R F σ H Q a sd q =>
  h R F σ H _ a sd fun A1 s v F1 H1 ⟨ds, hs, hk⟩ e1 a1 r1 => by
    subst hs
    obtain ⟨p, xs, rfl, h1, h2⟩ := sr_lst r1
    exact ⟨p, rfl, ⟨xs, .inl (.inl (a1.same _ _ h1))⟩, q A1 _ F1 H1 _ hk e1 a1 (src_list (.inl (.inl h1)) (dats_srs h2))⟩
theorem ints_srs {F : Hp} : ∀ ns : List Int, SRs K F (ns.map V.int) (ns.map fun n => SV.dat (.int n))
  | [] => .nil
  | _ :: ns => .cons (.int _) (ints_srs ns)
theorem iw_scr {k : KS} (h : Wp K A tl S fun A1 s => ∃ ns, s = .scr ns ∧ k A1 (ns.map fun n => .dat (.int n))) : IW K A (iList K tl) S k := fun R F σ H Q a sd q =>
  h R F σ H _ a sd fun A1 s v F1 H1 ⟨ns, hs, hk⟩ e1 a1 r1 => by
    subst hs
    obtain ⟨p, rfl, h1⟩ := r1
    exact ⟨p, rfl, ⟨_, a1.same.seq h1⟩, q A1 _ F1 H1 _ hk e1 a1 (src_list h1 (ints_srs ns))⟩
theorem iw_tup {k : KS} (h : Wp K A tl S fun A1 s => ∃ ds, s = .dat (.tuple ds) ∧ k A1 (ds.map .dat)) : IW K A (iTup K tl) S k := fun R F σ H Q a sd q =>
  h R F σ H _ a sd fun A1 s v F1 H1 ⟨ds, hs, hk⟩ e1 a1 r1 => by
    subst hs
    obtain ⟨p, xs, rfl, h1, h2⟩ := sr_tup r1
    exact ⟨p, rfl, ⟨xs, same_t a1.same h1⟩, q A1 _ F1 H1 _ hk e1 a1 (src_tup h1 (dats_srs h2))⟩
theorem src_rng {F : Hp} {lo : Int} {n : Nat} : Src K F (Itr lo n) (irange lo n) := fun A F' H i e at' => by
  refine ⟨fun hi => by rw [irange_length] at hi; exact hi, fun s hs => ?_⟩
  obtain ⟨hi, rfl⟩ := irange_get hs
  refine ⟨hi, fun x H' y => ?_⟩
  obtain ⟨rfl, rfl⟩ := y
  exact ⟨F', Same.refl F', at', .int _⟩
theorem iw_rng1 {ta : TA} {k : KS} (h : WpA K A ta S fun A1 ss => ∃ n : Int, ss = [.dat (.int n)] ∧ -(2 ^ 62) ≤ n ∧ n < 2 ^ 62 ∧ k A1 (irange 0 n.toNat)) : IW K A (iRng1 ta) S k := fun R F σ H Q a sd q =>
  h R F σ H _ a sd fun A1 ss vs F1 H1 ⟨n, hs, h1, h2, hk⟩ e1 a1 r1 => by
    subst hs
    cases r1 with
    | cons q1 r2 =>
      cases r2
      obtain rfl := sr_int q1
      exact ⟨n, rfl, h1, h2, q A1 _ F1 H1 _ hk e1 a1 src_rng⟩
theorem iw_rng2 {ta : TA} {k : KS} (h : WpA K A ta S fun A1 ss => ∃ m n : Int, ss = [.dat (.int m), .dat (.int n)] ∧ (-(2 ^ 62) ≤ m ∧ m < 2 ^ 62 ∧ -(2 ^ 62) ≤ n ∧ n < 2 ^ 62) ∧ k A1 (irange m (n - m).toNat)) : IW K A (iRng2 ta) S k := fun R F σ H Q a sd q =>
  h R F σ H _ a sd fun A1 ss vs F1 H1 ⟨m, n, hs, h1, hk⟩ e1 a1 r1 => by
    subst hs
    cases r1 with
    | cons q1 r2 =>
      cases r2 with
      | cons q2 r3 =>
        cases r3
        obtain rfl := sr_int q1
        obtain rfl := sr_int q2
        exact ⟨m, n, rfl, h1, q A1 _ F1 H1 _ hk e1 a1 src_rng⟩

/-! ### for, while -/
theorem go_for (h : IW K A wi S fun A1 xs => ∃ J : Nat → KS, J 0 A1 S ∧
    (∀ i s A2 S2, xs[i]? = some s → J i A2 S2 → GW K g s S2 A2 fun A3 S3 => Go K A3 tu S3 (E.loop (J (i + 1)))) ∧ ∀ A2 S2, J xs.length A2 S2 → E.nx A2 S2) : Go K A (tFor wi g tu) S E := fun R F σ H D a sd o => by
  refine h R F σ H _ a sd fun A1 xs F1 H1 J ⟨Jd, j0, js, je⟩ e1 a1 src => ?_
  refine ⟨fun i m σ' H' => m = xs.length - i ∧ i ≤ xs.length ∧ ∃ A2 S2 F2, Jd i A2 S2 ∧ Same F1 F2 ∧ AtR K A2 R F2 H' ∧ SD K F2 σ' S2, ⟨_, rfl, Nat.zero_le _, A1, S, F1, j0, Same.refl F1, a1, sd.mono e1⟩, ?_⟩
  rintro i m σ2 H2 ⟨rfl, hi, A2, S2, F2, hj, e2, a2, sd2⟩
  by_cases hlt : i < xs.length
  · obtain ⟨hg, hy⟩ := (src _ F2 H2 i e2 a2).2 xs[i] (List.getElem?_eq_getElem hlt)
    refine .inr ⟨hg, fun σ' H' => ∃ A3 S3 F3, Jd (i + 1) A3 S3 ∧ Same F2 F3 ∧ AtR K A3 R F3 H' ∧ SD K F3 σ' S3, fun σ' H' ⟨A3, S3, F3, h3, e3, a3, sd3⟩ => ⟨xs.length - (i + 1), by omega, rfl, hlt, A3, S3, F3, h3, e2.trans e3, a3, sd3⟩, fun x H' y => ?_⟩
    obtain ⟨F3, e3, a3, r3⟩ := hy x H' y
    refine js i _ A2 S2 (List.getElem?_eq_getElem hlt) hj R F3 σ2 H' x _ a3 (sd2.mono e3) r3 fun A4 S4 F4 σ4 H4 h4 e4 a4 sd4 => ?_
    refine h4 R F4 σ4 H4 _ a4 sd4 ⟨fun A5 S5 F5 σ5 H5 h5 e5 a5 sd5 => ⟨A5, S5, F5, h5, (e3.trans e4).trans e5, a5, sd5⟩, fun A5 S5 F5 σ5 H5 h5 e5 a5 sd5 => o.nx A5 S5 F5 σ5 H5 h5 ((((e1.trans e2).trans e3).trans e4).trans e5) a5 sd5,
      fun A5 S5 F5 σ5 H5 h5 e5 a5 sd5 => ⟨A5, S5, F5, h5, (e3.trans e4).trans e5, a5, sd5⟩, o.rt.mono (((e1.trans e2).trans e3).trans e4)⟩
  · have ei : i = xs.length := by omega
    subst ei
    exact .inl ⟨(src _ F2 H2 xs.length e2 a2).1 (Nat.le_refl _), o.nx A2 S2 F2 σ2 H2 (je A2 S2 hj) (e1.trans e2) a2 sd2⟩
theorem go_while {tc : TT} (W : Nat → KS) (w0 : ∃ m, W m A S) (h : ∀ m A1 S1, W m A1 S1 → WpT K A1 tc S1 fun A2 b => (b = true → Go K A2 tu S1 (E.loop fun A3 S3 => ∃ m', m' < m ∧ W m' A3 S3)) ∧ (b = false → E.nx A2 S1)) :
    Go K A (tWhile tc tu) S E := fun R F σ H D a sd o => by
  obtain ⟨m0, w0⟩ := w0
  refine ⟨fun m σ' H' => ∃ A2 S2 F2, W m A2 S2 ∧ Same F F2 ∧ AtR K A2 R F2 H' ∧ SD K F2 σ' S2, ⟨m0, A, S, F, w0, Same.refl F, a, sd⟩, ?_⟩
  rintro m σ2 H2 ⟨A2, S2, F2, hw, e2, a2, sd2⟩
  refine h m A2 S2 hw R F2 σ2 H2 _ a2 sd2 fun A3 b F3 H3 h3 e3 a3 => ?_
  cases b with
  | true =>
    refine ⟨fun σ' H' => ∃ m', m' < m ∧ ∃ A4 S4 F4, W m' A4 S4 ∧ Same F3 F4 ∧ AtR K A4 R F4 H' ∧ SD K F4 σ' S4, fun σ' H' ⟨m', hm, A4, S4, F4, h4, e4, a4, sd4⟩ => ⟨m', hm, A4, S4, F4, h4, (e2.trans e3).trans e4, a4, sd4⟩, ?_⟩
    exact h3.1 rfl R F3 σ2 H3 _ a3 (sd2.mono e3) ⟨fun A5 S5 F5 σ5 H5 ⟨m', hm, h5⟩ e5 a5 sd5 => ⟨m', hm, A5, S5, F5, h5, e5, a5, sd5⟩, o.nx.mono (e2.trans e3), fun A5 S5 F5 σ5 H5 ⟨m', hm, h5⟩ e5 a5 sd5 => ⟨m', hm, A5, S5, F5, h5, e5, a5, sd5⟩, o.rt.mono (e2.trans e3)⟩
  | false => exact o.nx A3 S2 F3 σ2 H3 (h3.2 rfl) (e2.trans e3) a3 (sd2.mono e3)

/-! ### comprehensions -/
def wipeS (S : List SV) : List Nat → List SV
  | [] => S
  | v :: vs => (wipeS S vs).set v .no
theorem SD.wipe {F : Hp} {σ : St} (h : SD K F σ S) : ∀ vs : List Nat, SD K F (L2.wipe σ vs) (wipeS S vs)
  | [] => h
  | v :: vs => SD.out (SD.wipe h vs) v
theorem wipe_get (σ : St) : ∀ (vs : List Nat) (i : Nat), (L2.wipe σ vs)[i]? = if i ∈ vs then (σ[i]?).map fun _ => none else σ[i]?
  | [], i => by simp [L2.wipe]
  | v :: vs, i => by
    show ((L2.wipe σ vs).set v none)[i]? = _
    by_cases h : v = i
    · subst h
      rw [List.getElem?_set]
      simp only [List.mem_cons, true_or, if_true, L2.wipe_length]
      by_cases hv : v < σ.length
      · simp [hv]
      · simp [hv]
    · rw [List.getElem?_set_ne h, wipe_get σ vs i]
      have : (i ∈ v :: vs) ↔ i ∈ vs := by
        simp only [List.mem_cons]
        constructor
        · rintro (q | q)
          · exact absurd q.symm h
          · exact q
        · exact .inr
      simp only [this]
theorem wipe_set (σ : St) (vs : List Nat) {i : Nat} (h : i ∈ vs) (o : Option V) : L2.wipe (σ.set i o) vs = L2.wipe σ vs := by
  refine List.ext_getElem? fun j => ?_
  rw [wipe_get, wipe_get]
  by_cases hj : j ∈ vs
  · rw [if_pos hj, if_pos hj, List.getElem?_set]
    by_cases e : i = j
    · subst e
      by_cases hl : i < σ.length
      · simp [hl]
      · simp [hl]
    · simp [e]
  · rw [if_neg hj, if_neg hj, List.getElem?_set_ne (fun e => hj (by rw [← e]; exact h))]
theorem wipe_idem (σ : St) (vs : List Nat) : L2.wipe (L2.wipe σ vs) vs = L2.wipe σ vs := by
  refine List.ext_getElem? fun j => ?_
  rw [wipe_get, wipe_get]
  by_cases hj : j ∈ vs
  · simp only [if_pos hj]
    cases σ[j]? <;> rfl
  · simp only [if_neg hj]
/-- a target stores nowhere but in these slots -/
def TOnly (g : TG) (vs : List Nat) : Prop := ∀ v σ H R, g v σ H R → g v σ H fun σ' H' => L2.wipe σ' vs = L2.wipe σ vs ∧ R σ' H'
def TsOnly (g : TGs) (vs : List Nat) : Prop := ∀ xs σ H R, g xs σ H R → g xs σ H fun σ' H' => L2.wipe σ' vs = L2.wipe σ vs ∧ R σ' H'
theorem to_name {i : Nat} {vs : List Nat} (h : i ∈ vs) : TOnly (gName i) vs := fun v σ H R q => ⟨wipe_set σ vs h _, q⟩
theorem tos_nil {vs : List Nat} : TsOnly gNil vs := fun xs σ H R q => ⟨q.1, rfl, q.2⟩
/-- a target's continuation may be made weaker -/
def TMono (g : TG) : Prop := ∀ v σ H (R R' : St → Hp → Prop), (∀ σ' H', R σ' H' → R' σ' H') → g v σ H R → g v σ H R'
def TsMono (g : TGs) : Prop := ∀ xs σ H (R R' : St → Hp → Prop), (∀ σ' H', R σ' H' → R' σ' H') → g xs σ H R → g xs σ H R'
theorem tm_name {i : Nat} : TMono (gName i) := fun v σ H R R' i q => i _ _ q
theorem tms_nil : TsMono gNil := fun xs σ H R R' i q => ⟨q.1, i _ _ q.2⟩
theorem tms_cons {u : TGs} (m1 : TMono g) (m2 : TsMono u) : TsMono (gCons g u) := fun xs σ H R R' i q => by
  obtain ⟨v, r, e, q⟩ := q
  exact ⟨v, r, e, m1 _ _ _ _ _ (fun σ' H' q' => m2 _ _ _ _ _ i q') q⟩
theorem tm_tup {n : Nat} {u : TGs} (m : TsMono u) : TMono (gTup K n u) := fun v σ H R R' i q => by
  obtain ⟨a, xs, e, h1, h2, q⟩ := q
  exact ⟨a, xs, e, h1, h2, m _ _ _ _ _ i q⟩
theorem tos_cons {u : TGs} {vs : List Nat} (m1 : TMono g) (m2 : TsMono u) (h1 : TOnly g vs) (h2 : TsOnly u vs) : TsOnly (gCons g u) vs := fun xs σ H R q => by
  obtain ⟨v, r, e, q⟩ := q
  exact ⟨v, r, e, m1 _ _ _ _ _ (fun σ' H' ⟨w, q'⟩ => m2 _ _ _ _ _ (fun σ2 H2 ⟨w2, q2⟩ => ⟨w2.trans w, q2⟩) (h2 _ _ _ _ q')) (h1 _ _ _ _ q)⟩
theorem to_tup {n : Nat} {u : TGs} {vs : List Nat} (h : TsOnly u vs) : TOnly (gTup K n u) vs := fun v σ H R q => by
  obtain ⟨a, xs, e, h1, h2, q⟩ := q
  exact ⟨a, xs, e, h1, h2, h _ _ _ _ q⟩
theorem At.perm {I : Blk} {l l' : List (Addr × Cell)} {F H : Hp} (a : At K ⟨I, l⟩ F H) (p : l.Perm l') : At K ⟨I, l'⟩ F H :=
  ⟨a.same, a.blk, a.bfree, fun q c h => a.cell q c (p.mem_iff.mpr h), (p.map _).nodup_iff.mp a.nd⟩
/-- the new list D goes along behind -/
theorem AtR.front {R : List (Addr × Cell)} {F H : Hp} {p : Addr} {c : Cell} (a : AtR K A ((p, c) :: R) F H) : AtR K (A.add p c) R F H := At.perm a List.perm_middle
theorem AtR.back {R : List (Addr × Cell)} {F H : Hp} {p : Addr} {c : Cell} (a : AtR K (A.add p c) R F H) : AtR K A ((p, c) :: R) F H := At.perm a List.perm_middle.symm
theorem dats_app (as : List PyData) (b : PyData) : (as ++ [b]).map SV.dat = as.map SV.dat ++ [SV.dat b] := by simp
/-- how a comprehension goes, its items any: acc what is made so far -/
def LcStep (K : PySem.W.Frag) (g : TG) (tt : TT) (te : TE) (S : List SV) (vs : List Nat) (J J' : Amb → List SV → Prop) (s : SV) : Prop :=
  ∀ A2 acc, J A2 acc → GW K g s (wipeS S vs) A2 fun A3 S3 => WpT K A3 tt S3 fun A4 b => (b = true → Wp K A4 te S3 fun A5 s5 => acc.length < sizeLine ∧ J' A5 (acc ++ [s5])) ∧ (b = false → J' A4 acc)
theorem wp_lcO {tt : TT} {vs : List Nat} {k : KA} (to : TOnly g vs) (h : IW K A wi S fun A1 xs => ∃ J : Nat → KS, J 0 A1 [] ∧ (∀ i s, xs[i]? = some s → LcStep K g tt te S vs (J i) (J (i + 1)) s) ∧
    ∀ A2 acc, J xs.length A2 acc → ∀ p, k (A2.add p (.lst acc)) (.ptr p)) : Wp K A (tLc wi g tt te vs) S k := fun R F σ H Q a sd q => by
  refine h R F σ H _ a sd fun A1 xs F1 H1 J ⟨Jd, j0, js, je⟩ e1 a1 src p hp => ?_
  refine ⟨fun i m H' => m = xs.length - i ∧ i ≤ xs.length ∧ ∃ A2 acc F2, Jd i A2 acc ∧ Same F1 F2 ∧ AtR K A2 ((p, .lst acc) :: R) F2 H', ⟨_, rfl, Nat.zero_le _, A1, [], F1, j0, Same.refl F1, (a1.new (o := .lst []) (c := .lst []) hp ⟨[], upd_same, .nil⟩).back⟩, ?_⟩
  rintro i m H2 ⟨rfl, hi, A2, acc, F2, hj, e2, a2⟩
  by_cases hlt : i < xs.length
  · obtain ⟨hg, hy⟩ := (src _ F2 H2 i e2 a2).2 xs[i] (List.getElem?_eq_getElem hlt)
    refine .inr ⟨hg, fun H' => ∃ A3 acc3 F3, Jd (i + 1) A3 acc3 ∧ Same F2 F3 ∧ AtR K A3 ((p, .lst acc3) :: R) F3 H', fun H' ⟨A3, acc3, F3, h3, e3, a3⟩ => ⟨xs.length - (i + 1), by omega, rfl, hlt, A3, acc3, F3, h3, e2.trans e3, a3⟩, fun x H' y => ?_⟩
    obtain ⟨F3, e3, a3, r3⟩ := hy x H' y
    have g1 := js i _ (List.getElem?_eq_getElem hlt) A2 acc hj ((p, .lst acc) :: R) F3 (L2.wipe σ vs) H' x (fun σ2 H2 => tt σ2 H2 fun b H3 => if b = true then te σ2 H3 fun y H4 => ∃ acc, H4 p = some (.lst acc) ∧ acc.length < sizeLine ∧ ∃ A3 acc3 F3, Jd (i + 1) A3 acc3 ∧ Same F2 F3 ∧ AtR K A3 ((p, .lst acc3) :: R) F3 (upd H4 p (.lst (acc ++ [y]))) else ∃ A3 acc3 F3, Jd (i + 1) A3 acc3 ∧ Same F2 F3 ∧ AtR K A3 ((p, .lst acc3) :: R) F3 H3) a3 (((sd.mono e1).mono (e2.trans e3)).wipe vs) r3 ?_
    · have g2 := to x (L2.wipe σ vs) H' _ g1
      rw [wipe_idem] at g2
      exact g2
    intro A4 S4 F4 σ4 H4 h4 e4 a4 sd4
    refine h4 _ F4 σ4 H4 _ a4 sd4 fun A5 b F5 H5 h5 e5 a5 => ?_
    cases b with
    | true =>
      show te σ4 H5 _
      refine h5.1 rfl _ F5 σ4 H5 _ a5 (sd4.mono e5) fun A6 s6 v6 F6 H6 ⟨hl, h6⟩ e6 a6 r6 => ?_
      obtain ⟨_, _, us, f3, f4⟩ := At.cell a6 p (.lst acc) (List.mem_append_right _ List.mem_cons_self)
      refine ⟨us, f3, by rw [f4.length]; exact hl, A6, _, F6, h6, ((e3.trans e4).trans e5).trans e6, ?_⟩
      have a7 := (a6.front).put (o := .lst (us ++ [v6])) (c' := .lst (acc ++ [s6])) .head ⟨_, upd_same, papp f4 (.cons r6 .nil)⟩
      exact a7.back
    | false => exact ⟨A5, acc, F5, h5.2 rfl, (e3.trans e4).trans e5, a5⟩
  · have ei : i = xs.length := by omega
    subst ei
    refine .inl ⟨(src _ F2 H2 xs.length e2 a2).1 (Nat.le_refl _), ?_⟩
    exact q _ _ _ F2 H2 (je A2 acc hj p) (e1.trans e2) a2.front rfl
/-- .. as data -/
theorem wp_lc {tt : TT} {vs : List Nat} {k : KA} (to : TOnly g vs) (h : IW K A wi S fun A1 xs => ∃ J : Nat → KS, J 0 A1 [] ∧ (∀ i s, xs[i]? = some s → LcStep K g tt te S vs (J i) (J (i + 1)) s) ∧
    ∀ A2 acc, J xs.length A2 acc → ∃ ds, acc = ds.map .dat ∧ k A2 (.dat (.list ds))) : Wp K A (tLc wi g tt te vs) S k :=
  wp_frz (wp_lcO to fun R F σ H Q a sd q => h R F σ H Q a sd fun A1 xs F1 H1 J ⟨Jd, j0, js, je⟩ => q A1 xs F1 H1 J ⟨Jd, j0, js, fun A2 acc hj p => by
    obtain ⟨ds, rfl, hk⟩ := je A2 acc hj
    exact ⟨p, ds, A2.cells, rfl, .head, hk⟩⟩)
/-- .. of steps that leave what is owned: the items by a function -/
theorem wp_lcP {tt : TT} {vs : List Nat} {k : KA} (to : TOnly g vs) (h : IW K A wi S fun A1 (xs : List SV) => ∃ f : SV → Option PyData, xs.length ≤ sizeLine ∧
    (∀ (i : Nat) (s : SV), xs[i]? = some s → GW K g s (wipeS S vs) A1 fun A3 S3 => WpT K A3 tt S3 fun A4 b => (b = true → Wp K A4 te S3 fun A5 s5 => A5 = A1 ∧ ∃ d, s5 = .dat d ∧ f s = some d) ∧ (b = false → A4 = A1 ∧ f s = none)) ∧
    k A1 (.dat (.list (xs.filterMap f)))) : Wp K A (tLc wi g tt te vs) S k :=
  wp_lc to fun R F σ H Q a sd q => h R F σ H Q a sd fun A1 xs F1 H1 J ⟨f, hl, hs, hk⟩ => q A1 xs F1 H1 J
    ⟨fun i A2 acc => A2 = A1 ∧ i ≤ xs.length ∧ acc = ((xs.take i).filterMap f).map .dat, ⟨rfl, Nat.zero_le _, rfl⟩, fun i s hi A2 acc ⟨e1, e0, e2⟩ => by
      subst e1; subst e2
      have hlt := (List.getElem?_eq_some_iff.mp hi).1
      have ht : xs.take (i + 1) = xs.take i ++ [s] := by rw [List.take_add_one, hi]; rfl
      refine fun R' F' σ' H' v' Q' a' sd' r' q' => hs i s hi R' F' σ' H' v' Q' a' sd' r' fun A3 S3 F3 σ3 H3 h3 => q' A3 S3 F3 σ3 H3 (h3.imp fun A4 b ⟨h4, h5⟩ => ⟨fun hb => (h4 hb).imp fun A5 s5 ⟨e5, d, e6, e7⟩ => ?_, fun hb => ?_⟩)
      · subst e5; subst e6
        refine ⟨?_, rfl, hlt, by rw [ht, List.filterMap_append, List.map_append]; simp [e7]⟩
        have := List.length_filterMap_le f (xs.take i)
        rw [List.length_map]
        have h2 : (xs.take i).length = i := by rw [List.length_take]; omega
        omega
      · obtain ⟨e5, e6⟩ := h5 hb
        subst e5
        exact ⟨rfl, hlt, by rw [ht, List.filterMap_append]; simp [e6]⟩, fun A2 acc ⟨e1, e0, e2⟩ => by
      subst e1; subst e2
      exact ⟨_, rfl, by rw [List.take_length]; exact hk⟩⟩
end
end DL

/-! Rules by values that the hand layer lacks: sorted over data, in over tuples of data. -/
namespace DL
open PySem L2 PySem.W

abbrev dsort (ds : List PyData) : List PyData := ds.mergeSort (dataLe false id)
def rSortedD (K : PySem.W.Frag) : List V → Hp → VK → Prop := fun vs H Q => ∃ (a : Addr) (xs : List V) (ds : List PyData), vs = [V.ref a] ∧ SqL K H a xs ∧ DpAll K H xs ds ∧ AllAlike ds ∧ Sortable ds ∧ (∀ d ∈ ds, d.depth ≤ 60) ∧
  ∀ p, H p = none → Q (.ref p) (upd H p (.lst (((xs.zip ds).mergeSort (dataLe false Prod.snd)).map Prod.fst)))
section
variable {X : Cx}
theorem DpAll_length {K : PySem.W.Frag} {H : Hp} : ∀ {xs : List V} {ds : List PyData}, DpAll K H xs ds → xs.length = ds.length
  | _, _, .nil => rfl
  | _, _, .cons _ t => congrArg (· + 1) (DpAll_length t)
theorem each_zip {K : PySem.W.Frag} {H : Hp} : ∀ {xs : List V} {ds : List PyData} {us : List Value}, DpAll K H xs ds → Vals xs us → EachIs (fun (u : Value) (b : V × PyData) => RelV b.1 u) us (xs.zip ds)
  | _, _, _, .nil, .nil => .nil
  | _, _, _, .cons h t, .cons r rs => .cons r (each_zip t rs)
theorem each_reads {pins : List (Addr × Obj)} {σ : St} {H : Hp} {s : Shared} (I : Inv X pins σ H s) : ∀ {xs : List V} {ds : List PyData} {us : List Value}, DpAll X.K H xs ds → Vals xs us → EachIs (fun (u : Value) (b : V × PyData) => ∃ as, Reads s.heap u (Prod.snd b) as) us (xs.zip ds)
  | _, _, _, .nil, .nil => .nil
  | _, _, _, .cons h t, .cons r rs => .cons (Dp.reads I _ _ _ h r) (each_reads I t rs)
theorem each_vals : ∀ {us : List Value} {bs : List (V × PyData)}, EachIs (fun (u : Value) (b : V × PyData) => RelV b.1 u) us bs → Vals (bs.map Prod.fst) us
  | _, _, .nil => .nil
  | _, _, .cons r t => .cons r (each_vals t)
theorem cr_sortedD (hu : X.A.units + 65 < cLine) : CallR X (.builtin "sorted") (rSortedD X.K) := by
  intro pins s σ H vs us Q I r h
  obtain ⟨a, xs, ds, rfl, hs, hd, hal, hk, hdep, q⟩ := h
  obtain ⟨its, rv, hl, hz⟩ := I.list hs
  rw [Vals.ref1 r]
  have e2 : (xs.zip ds).map Prod.snd = ds := List.map_snd_zip (by rw [DpAll_length hd]; exact Nat.le_refl _)
  have hlen : (xs.zip ds).length = xs.length := by rw [List.length_zip, DpAll_length hd]; exact Nat.min_self _
  refine sorted_data (enc := Prod.snd) (bs := xs.zip ds) hl.isList (each_zip hd rv) (each_reads I hd rv) (by rw [e2]; exact hal) (by rw [e2]; exact hk) ?_ ?_ fun out h1 h2 => ?_
  · rw [hlen]
    exact hz
  · intro b hb
    have hb' : b.2 ∈ ds := by
      rw [← e2]
      exact List.mem_map.mpr ⟨b, hb, rfl⟩
    have := hdep _ hb'
    show X.A.units + 2 + (b.2).depth < cLine
    omega
  · obtain ⟨ep, he'⟩ := PyProof.Rows.sortedAll_at s.heap its (List.toArray out)
    have hv := each_vals h2
    refine ⟨.ref _, upd H (s.heap.objs.size + 1) (.lst _), I.laid (t' := s.toks) (fun _ _ => PyProof.Rows.sortedAll_old) (Nat.le_succ _) ⟨?_, out, ep, hv, he'⟩, rfl, q _ (I.hok.fresh (Nat.le_succ _))⟩
    rw [List.length_map, (List.mergeSort_perm _ _).length_eq, hlen]
    exact hz
def rInTD (K : PySem.W.Frag) : R2 := fun x y H Q => ∃ d ds, Dp K H x d ∧ (Dp K H y (.tuple ds) ∨ Dp K H y (.list ds)) ∧ SeqAt.shaped d = true ∧ SeqAt.shaped (.tuple ds) = true ∧ Q (.bl (ds.any fun z => PyData.eqv z d)) H
def rNotInTD (K : PySem.W.Frag) : R2 := fun x y H Q => ∃ d ds, Dp K H x d ∧ (Dp K H y (.tuple ds) ∨ Dp K H y (.list ds)) ∧ SeqAt.shaped d = true ∧ SeqAt.shaped (.tuple ds) = true ∧ Q (.bl (!ds.any fun z => PyData.eqv z d)) H
theorem op_inTD (hu : X.A.units + 65 < cLine) : OpR X (compareOp .In) (rInTD X.K) := by
  intro pins s σ H x y v u Q I rx ry h
  obtain ⟨d, ds, hd, he, sd, se, q⟩ := h
  obtain ⟨as, r1⟩ := Dp.reads I d x v hd rx
  rcases he with he | he
  · obtain ⟨bs, r2⟩ := Dp.reads I (.tuple ds) y u he ry
    exact SeqAt.in_tuple_reads r2 r1 (SeqAt.canLay_of_shaped se) (SeqAt.canLay_of_shaped sd) (PyProof.Rows.room_in_shaped sd hu) ⟨.bl _, H, I, rfl, q⟩
  · obtain ⟨bs, r2⟩ := Dp.reads I (.list ds) y u he ry
    exact SeqAt.in_list_reads r2 r1 (SeqAt.canLay_of_shaped se) (SeqAt.canLay_of_shaped sd) (PyProof.Rows.room_in_shaped sd hu) ⟨.bl _, H, I, rfl, q⟩
theorem op_notInTD (hu : X.A.units + 65 < cLine) : OpR X (compareOp .NotIn) (rNotInTD X.K) := by
  intro pins s σ H x y v u Q I rx ry h
  obtain ⟨d, ds, hd, he, sd, se, q⟩ := h
  obtain ⟨as, r1⟩ := Dp.reads I d x v hd rx
  rcases he with he | he
  · obtain ⟨bs, r2⟩ := Dp.reads I (.tuple ds) y u he ry
    exact SeqAt.notIn_tuple_reads r2 r1 (SeqAt.canLay_of_shaped se) (SeqAt.canLay_of_shaped sd) (PyProof.Rows.room_in_shaped sd hu) ⟨.bl _, H, I, rfl, q⟩
  · obtain ⟨bs, r2⟩ := Dp.reads I (.list ds) y u he ry
    exact SeqAt.notIn_list_reads r2 r1 (SeqAt.canLay_of_shaped se) (SeqAt.canLay_of_shaped sd) (PyProof.Rows.room_in_shaped sd hu) ⟨.bl _, H, I, rfl, q⟩
end
end DL

/-! The data layer: operators, built-ins, dicts, defs, blocks. -/
namespace DL
open PySem L2

def vd : V → Option PyData
  | .non => some .none
  | .bl b => some (.bool b)
  | .int i => some (.int i)
  | .str x => some (.str x)
  | _ => none
theorem vd_dt {K : PySem.W.Frag} {F : Hp} : ∀ {v : V} {d : PyData}, vd v = some d → Dt K F v d
  | .non, _, h => by cases h; exact .non
  | .bl b, _, h => by cases h; exact .bl b
  | .int i, _, h => by cases h; exact .int i
  | .str x, _, h => by cases h; exact .str x
  | .byt _, _, h => by cases h
  | .flt _, _, h => by cases h
  | .ref _, _, h => by cases h
  | .ty _, _, h => by cases h
section
variable {K : PySem.W.Frag} {A A' : Amb} {S S' : List SV} {k k' : KA} {ta tb te td ty tv : TE} {t u : TT} {s s1 s2 : SV} {E : DE} {tu tw : TS}
/-! ### operators -/
theorem rw_I0 {g : Int → Int → V} {i j : Int} {d : PyData} (e : vd (g i j) = some d) (h : k A (.dat d)) : RW K (rI0 g) (.dat (.int i)) (.dat (.int j)) A k := fun R F H v w Q a r1 r2 q => by
  obtain rfl := sr_int r1
  obtain rfl := sr_int r2
  exact ⟨i, j, rfl, rfl, q A _ _ F H h (Same.refl F) a (vd_dt e)⟩
theorem rw_I {C : Int → Int → Prop} {g : Int → Int → V} {i j : Int} {d : PyData} (hc : C i j) (e : vd (g i j) = some d) (h : k A (.dat d)) : RW K (rI C g) (.dat (.int i)) (.dat (.int j)) A k := fun R F H v w Q a r1 r2 q => by
  obtain rfl := sr_int r1
  obtain rfl := sr_int r2
  exact ⟨i, j, rfl, rfl, hc, q A _ _ F H h (Same.refl F) a (vd_dt e)⟩
theorem uw_U {g : Int → V} {i : Int} {d : PyData} (e : vd (g i) = some d) (h : k A (.dat d)) : UW K (rU g) (.dat (.int i)) A k := fun R F H v Q a r1 q => by
  obtain rfl := sr_int r1
  exact ⟨i, rfl, q A _ _ F H h (Same.refl F) a (vd_dt e)⟩
theorem rw_eqD {d e : PyData} (hd : SeqAt.shaped d = true) (he : SeqAt.shaped e = true) (h : k A (.dat (.bool (PyData.eqv d e)))) : RW K (rEqD K) (.dat d) (.dat e) A k := fun R F H v w Q a r1 r2 q =>
  ⟨d, e, (Dt.mono a.same r1).dp, (Dt.mono a.same r2).dp, hd, he, q A _ _ F H h (Same.refl F) a (.bl _)⟩
theorem rw_neD {d e : PyData} (hd : SeqAt.shaped d = true) (he : SeqAt.shaped e = true) (h : k A (.dat (.bool (!PyData.eqv d e)))) : RW K (rNeD K) (.dat d) (.dat e) A k := fun R F H v w Q a r1 r2 q =>
  ⟨d, e, (Dt.mono a.same r1).dp, (Dt.mono a.same r2).dp, hd, he, q A _ _ F H h (Same.refl F) a (.bl _)⟩
theorem AtR.cellD {R : List (Addr × Cell)} {F H : Hp} {p : Addr} {ds : List PyData} (a : AtR K A R F H) (h : (p, .lst (ds.map .dat)) ∈ A.cells) : ∃ vs, H p = some (.lst vs) ∧ DtAll K F vs ds := by
  obtain ⟨vs, h1, h2⟩ := a.cell h
  exact ⟨vs, h1, srs_dats h2⟩
theorem AtR.cellP {R : List (Addr × Cell)} {F H : Hp} {p : Addr} {ds : List PyData} (a : AtR K A R F H) (h : (p, .lst (ds.map .dat)) ∈ A.cells) : Dp K H (.ref p) (.list ds) := by
  obtain ⟨vs, h1, h2⟩ := a.cellD h
  exact (Dt.lst h1 (h2.mono a.same)).dp
/-- an owned list of data beside data -/
theorem rw_eqP {p : Addr} {ds : List PyData} {e : PyData} (hp : (p, .lst (ds.map .dat)) ∈ A.cells) (hd : SeqAt.shaped (.list ds) = true) (he : SeqAt.shaped e = true) (h : k A (.dat (.bool (PyData.eqv (.list ds) e)))) : RW K (rEqD K) (.ptr p) (.dat e) A k := fun R F H v w Q a r1 r2 q => by
  obtain rfl : v = .ref p := r1
  exact ⟨_, e, a.cellP hp, (Dt.mono a.same r2).dp, hd, he, q A _ _ F H h (Same.refl F) a (.bl _)⟩
theorem rw_neP {p : Addr} {ds : List PyData} {e : PyData} (hp : (p, .lst (ds.map .dat)) ∈ A.cells) (hd : SeqAt.shaped (.list ds) = true) (he : SeqAt.shaped e = true) (h : k A (.dat (.bool (!PyData.eqv (.list ds) e)))) : RW K (rNeD K) (.ptr p) (.dat e) A k := fun R F H v w Q a r1 r2 q => by
  obtain rfl : v = .ref p := r1
  exact ⟨_, e, a.cellP hp, (Dt.mono a.same r2).dp, hd, he, q A _ _ F H h (Same.refl F) a (.bl _)⟩
theorem rw_inT {d : PyData} {ds : List PyData} (hd : SeqAt.shaped d = true) (he : SeqAt.shaped (.tuple ds) = true) (h : k A (.dat (.bool (ds.any fun z => PyData.eqv z d)))) : RW K (rInTD K) (.dat d) (.dat (.tuple ds)) A k := fun R F H v w Q a r1 r2 q =>
  ⟨d, ds, (Dt.mono a.same r1).dp, .inl (Dt.mono a.same r2).dp, hd, he, q A _ _ F H h (Same.refl F) a (.bl _)⟩
theorem rw_inL {d : PyData} {ds : List PyData} (hd : SeqAt.shaped d = true) (he : SeqAt.shaped (.tuple ds) = true) (h : k A (.dat (.bool (ds.any fun z => PyData.eqv z d)))) : RW K (rInTD K) (.dat d) (.dat (.list ds)) A k := fun R F H v w Q a r1 r2 q =>
  ⟨d, ds, (Dt.mono a.same r1).dp, .inr (Dt.mono a.same r2).dp, hd, he, q A _ _ F H h (Same.refl F) a (.bl _)⟩
theorem rw_niT {d : PyData} {ds : List PyData} (hd : SeqAt.shaped d = true) (he : SeqAt.shaped (.tuple ds) = true) (h : k A (.dat (.bool (!ds.any fun z => PyData.eqv z d)))) : RW K (rNotInTD K) (.dat d) (.dat (.tuple ds)) A k := fun R F H v w Q a r1 r2 q =>
  ⟨d, ds, (Dt.mono a.same r1).dp, .inl (Dt.mono a.same r2).dp, hd, he, q A _ _ F H h (Same.refl F) a (.bl _)⟩
theorem rw_niL {d : PyData} {ds : List PyData} (hd : SeqAt.shaped d = true) (he : SeqAt.shaped (.tuple ds) = true) (h : k A (.dat (.bool (!ds.any fun z => PyData.eqv z d)))) : RW K (rNotInTD K) (.dat d) (.dat (.list ds)) A k := fun R F H v w Q a r1 r2 q =>
  ⟨d, ds, (Dt.mono a.same r1).dp, .inr (Dt.mono a.same r2).dp, hd, he, q A _ _ F H h (Same.refl F) a (.bl _)⟩
/-- x in an owned list of data -/
theorem rw_inP {d : PyData} {p : Addr} {ds : List PyData} (hp : (p, .lst (ds.map .dat)) ∈ A.cells) (hd : SeqAt.shaped d = true) (he : SeqAt.shaped (.tuple ds) = true) (h : k A (.dat (.bool (ds.any fun z => PyData.eqv z d)))) : RW K (rInTD K) (.dat d) (.ptr p) A k := fun R F H v w Q a r1 r2 q => by
  obtain rfl : w = .ref p := r2
  exact ⟨d, ds, (Dt.mono a.same r1).dp, .inr (a.cellP hp), hd, he, q A _ _ F H h (Same.refl F) a (.bl _)⟩
theorem rw_niP {d : PyData} {p : Addr} {ds : List PyData} (hp : (p, .lst (ds.map .dat)) ∈ A.cells) (hd : SeqAt.shaped d = true) (he : SeqAt.shaped (.tuple ds) = true) (h : k A (.dat (.bool (!ds.any fun z => PyData.eqv z d)))) : RW K (rNotInTD K) (.dat d) (.ptr p) A k := fun R F H v w Q a r1 r2 q => by
  obtain rfl : w = .ref p := r2
  exact ⟨d, ds, (Dt.mono a.same r1).dp, .inr (a.cellP hp), hd, he, q A _ _ F H h (Same.refl F) a (.bl _)⟩
theorem atI_map {α β : Type} (f : α → β) (xs : List α) (i : Int) : atI (xs.map f) i = (atI xs i).map f := by
  unfold atI
  rw [List.length_map]
  cases ixN xs.length i with
  | none => rfl
  | some j => simp
theorem atI_all {F : Hp} {xs : List V} {ds : List PyData} {i : Int} {d : PyData} (h : DtAll K F xs ds) (e : atI ds i = some d) : ∃ v, atI xs i = some v ∧ Dt K F v d := by
  unfold atI at e ⊢
  rw [h.length]
  cases hj : ixN ds.length i with
  | none => rw [hj] at e; cases e
  | some j =>
    rw [hj] at e
    exact h.getD (i := j) e
theorem atI_srs {F : Hp} {xs : List V} {ss : List SV} {i : Int} {s : SV} (h : SRs K F xs ss) (e : atI ss i = some s) : ∃ v, atI xs i = some v ∧ SR K F v s := by
  unfold atI at e ⊢
  rw [h.length]
  cases hj : ixN ss.length i with
  | none => rw [hj] at e; cases e
  | some j =>
    rw [hj] at e
    exact pget h (i := j) e
theorem rw_ixT {ds : List PyData} {i : Int} {d : PyData} (e : atI ds i = some d) (h : k A (.dat d)) : RW K (rIx K) (.dat (.tuple ds)) (.dat (.int i)) A k := fun R F H v w Q a r1 r2 q => by
  obtain ⟨p, xs, rfl, h1, h2⟩ := sr_tup r1
  obtain rfl := sr_int r2
  obtain ⟨x, h3, h4⟩ := atI_all h2 e
  exact .inr (.inl ⟨p, xs, i, x, rfl, rfl, same_t a.same h1, h3, q A _ _ F H h (Same.refl F) a h4⟩)
theorem rw_ixL {ds : List PyData} {i : Int} {d : PyData} (e : atI ds i = some d) (h : k A (.dat d)) : RW K (rIx K) (.dat (.list ds)) (.dat (.int i)) A k := fun R F H v w Q a r1 r2 q => by
  obtain ⟨p, xs, rfl, h1, h2⟩ := sr_lst r1
  obtain rfl := sr_int r2
  obtain ⟨x, h3, h4⟩ := atI_all h2 e
  exact .inl ⟨p, xs, i, x, rfl, rfl, .inl (.inl (a.same _ _ h1)), h3, q A _ _ F H h (Same.refl F) a h4⟩
theorem rw_ixP {p : Addr} {xs : List SV} {i : Int} {s : SV} (hp : (p, .lst xs) ∈ A.cells) (e : atI xs i = some s) (h : k A s) : RW K (rIx K) (.ptr p) (.dat (.int i)) A k := fun R F H v w Q a r1 r2 q => by
  obtain rfl : v = .ref p := r1
  obtain rfl := sr_int r2
  obtain ⟨vs, h1, h2⟩ := a.cell hp
  obtain ⟨x, h3, h4⟩ := atI_srs h2 e
  exact .inl ⟨p, vs, i, x, rfl, rfl, .inl (.inl h1), h3, q A _ _ F H h (Same.refl F) a h4⟩
theorem rw_ixS {ns : List Int} {i : Int} {n : Int} (e : atI ns i = some n) (h : k A (.dat (.int n))) : RW K (rIx K) (.scr ns) (.dat (.int i)) A k := fun R F H v w Q a r1 r2 q => by
  obtain ⟨p, rfl, h1⟩ := r1
  obtain rfl := sr_int r2
  exact .inl ⟨p, _, i, .int n, rfl, rfl, a.same.seq h1, by rw [atI_map, e]; rfl, q A _ _ F H h (Same.refl F) a (.int n)⟩
theorem rw_ixX {z : Str} {i : Int} {c : Nat} (hz : z.length ≤ sizeLine) (e : atI z.cps.toList i = some c) (h : k A (.dat (.str ⟨#[c]⟩))) : RW K (rIx K) (.dat (.str z)) (.dat (.int i)) A k := fun R F H v w Q a r1 r2 q => by
  obtain rfl := sr_str r1
  obtain rfl := sr_int r2
  exact .inr (.inr ⟨z, i, c, rfl, rfl, hz, e, q A _ _ F H h (Same.refl F) a (.str _)⟩)
/-- two lists of data put together: a new one, as data -/
theorem rw_cat {ds es : List PyData} (hl : ds.length + es.length ≤ sizeLine) (h : k A (.dat (.list (ds ++ es)))) : RW K rCat (.dat (.list ds)) (.dat (.list es)) A k := fun R F H v w Q a r1 r2 q => by
  obtain ⟨p, xs, rfl, h1, h2⟩ := sr_lst r1
  obtain ⟨p', ys, rfl, h3, h4⟩ := sr_lst r2
  refine ⟨p, p', xs, ys, rfl, rfl, a.same _ _ h1, a.same _ _ h3, by rw [h2.length, h4.length]; exact hl, fun n hn => ?_⟩
  obtain ⟨a2, e2⟩ := a.alloc (o := .lst (xs ++ ys)) hn
  exact q A _ _ _ _ h e2 a2 (.lst upd_same ((h2.append h4).mono e2))
/-! ### built-ins -/
def rLenD (K : PySem.W.Frag) : List V → Hp → VK → Prop := fun xs H Q => ∃ x n, xs = [x] ∧ LenV K x H n ∧ Q (.int n) H
theorem call_lenA {X : Cx} : CallR X (.builtin "len") (rLenD X.K) := call_len
def rListD2 (K : PySem.W.Frag) : List V → Hp → VK → Prop := fun xs H Q => ∃ p ys, xs = [.ref p] ∧ (SqL K H p ys ∨ SqT K H p ys) ∧ ∀ l, H l = none → Q (.ref l) (upd H l (.lst ys))
theorem call_listA {X : Cx} : CallR X (.type "list") (rListD2 X.K) := call_list_of
def rTupD2 (K : PySem.W.Frag) : List V → Hp → VK → Prop := fun xs H Q => ∃ p ys, xs = [.ref p] ∧ ((SqL K H p ys ∧ ∀ l, H l = none → Q (.ref l) (upd H l (.tup ys))) ∨ (SqT K H p ys ∧ Q (.ref p) H))
theorem call_tupA {X : Cx} : CallR X (.type "tuple") (rTupD2 X.K) := call_tuple_of
theorem one_of {F : Hp} {vs : List V} (r : SRs K F vs [s]) : ∃ v, vs = [v] ∧ SR K F v s := by
  cases r with
  | cons r1 r2 =>
    cases r2
    exact ⟨_, rfl, r1⟩
theorem two_of {F : Hp} {vs : List V} (r : SRs K F vs [s1, s2]) : ∃ v w, vs = [v, w] ∧ SR K F v s1 ∧ SR K F w s2 := by
  cases r with
  | cons r1 r2 =>
    cases r2 with
    | cons r3 r4 =>
      cases r4
      exact ⟨_, _, rfl, r1, r3⟩
theorem cw_lenL {ds : List PyData} (h : k A (.dat (.int ds.length))) : CW K (rLenD K) [.dat (.list ds)] A k := fun R F H vs Q a r q => by
  obtain ⟨v, rfl, r1⟩ := one_of r
  obtain ⟨p, xs, rfl, h1, h2⟩ := sr_lst r1
  exact ⟨_, xs.length, rfl, .inl ⟨xs, .inl (.inl (a.same _ _ h1)), rfl⟩, by rw [h2.length]; exact q A _ _ F H h (Same.refl F) a (.int _)⟩
theorem cw_lenT {ds : List PyData} (h : k A (.dat (.int ds.length))) : CW K (rLenD K) [.dat (.tuple ds)] A k := fun R F H vs Q a r q => by
  obtain ⟨v, rfl, r1⟩ := one_of r
  obtain ⟨p, xs, rfl, h1, h2⟩ := sr_tup r1
  exact ⟨_, xs.length, rfl, .inr ⟨xs, same_t a.same h1, rfl⟩, by rw [h2.length]; exact q A _ _ F H h (Same.refl F) a (.int _)⟩
theorem cw_lenP {p : Addr} {xs : List SV} (hp : (p, .lst xs) ∈ A.cells) (h : k A (.dat (.int xs.length))) : CW K (rLenD K) [.ptr p] A k := fun R F H vs Q a r q => by
  obtain ⟨v, rfl, r1⟩ := one_of r
  obtain rfl : v = .ref p := r1
  obtain ⟨us, h1, h2⟩ := a.cell hp
  exact ⟨_, us.length, rfl, .inl ⟨us, .inl (.inl h1), rfl⟩, by rw [h2.length]; exact q A _ _ F H h (Same.refl F) a (.int _)⟩
theorem cw_lenS {ns : List Int} (h : k A (.dat (.int ns.length))) : CW K (rLenD K) [.scr ns] A k := fun R F H vs Q a r q => by
  obtain ⟨v, rfl, p, rfl, h1⟩ := one_of r
  exact ⟨_, (ns.map V.int).length, rfl, .inl ⟨_, a.same.seq h1, rfl⟩, by rw [List.length_map]; exact q A _ _ F H h (Same.refl F) a (.int _)⟩
theorem cw_lenX {z : Str} (hz : z.length ≤ sizeLine) (h : k A (.dat (.int z.length))) : CW K (rLenD K) [.dat (.str z)] A k := fun R F H vs Q a r q => by
  obtain ⟨v, rfl, r1⟩ := one_of r
  obtain rfl := sr_str r1
  exact ⟨_, z.length, rfl, ⟨hz, rfl⟩, q A _ _ F H h (Same.refl F) a (.int _)⟩
/-- list(x): a new list, one's own -/
theorem cw_listS {ns : List Int} (h : ∀ p, k (A.add p (.lst (ns.map fun n => .dat (.int n)))) (.ptr p)) : CW K (rListD2 K) [.scr ns] A k := fun R F H vs Q a r q => by
  obtain ⟨v, rfl, p, rfl, h1⟩ := one_of r
  refine ⟨p, _, rfl, .inl (a.same.seq h1), fun l hl => ?_⟩
  exact q _ _ _ _ _ (h l) (Same.refl F) (a.new hl ⟨_, upd_same, ints_srs ns⟩) rfl
theorem cw_listD {ds : List PyData} {d : PyData} (hd : d = .list ds ∨ d = .tuple ds) (h : ∀ p, k (A.add p (.lst (ds.map .dat))) (.ptr p)) : CW K (rListD2 K) [.dat d] A k := fun R F H vs Q a r q => by
  obtain ⟨v, rfl, r1⟩ := one_of r
  rcases hd with rfl | rfl
  · obtain ⟨p, xs, rfl, h1, h2⟩ := sr_lst r1
    exact ⟨p, xs, rfl, .inl (.inl (.inl (a.same _ _ h1))), fun l hl => q _ _ _ _ _ (h l) (Same.refl F) (a.new (o := .lst xs) (c := .lst (ds.map .dat)) hl ⟨xs, upd_same, dats_srs h2⟩) rfl⟩
  · obtain ⟨p, xs, rfl, h1, h2⟩ := sr_tup r1
    exact ⟨p, xs, rfl, .inr (same_t a.same h1), fun l hl => q _ _ _ _ _ (h l) (Same.refl F) (a.new (o := .lst xs) (c := .lst (ds.map .dat)) hl ⟨xs, upd_same, dats_srs h2⟩) rfl⟩
theorem cw_tupD {ds : List PyData} {d : PyData} (hd : d = .list ds ∨ d = .tuple ds) (h : k A (.dat (.tuple ds))) : CW K (rTupD2 K) [.dat d] A k := fun R F H vs Q a r q => by
  obtain ⟨v, rfl, r1⟩ := one_of r
  rcases hd with rfl | rfl
  · obtain ⟨p, xs, rfl, h1, h2⟩ := sr_lst r1
    refine ⟨p, xs, rfl, .inl ⟨.inl (.inl (a.same _ _ h1)), fun l hl => ?_⟩⟩
    obtain ⟨a2, e2⟩ := a.alloc (o := .tup xs) hl
    exact q A _ _ _ _ h e2 a2 (.tup (SqT.of upd_same) (h2.mono e2))
  · obtain ⟨p, xs, rfl, h1, h2⟩ := sr_tup r1
    exact ⟨p, xs, rfl, .inr ⟨same_t a.same h1, q A _ _ F H h (Same.refl F) a r1⟩⟩
/-- tuple(x) of an owned list of data -/
theorem cw_tupP {p : Addr} {ds : List PyData} (hp : (p, .lst (ds.map .dat)) ∈ A.cells) (h : k A (.dat (.tuple ds))) : CW K (rTupD2 K) [.ptr p] A k := fun R F H vs Q a r q => by
  obtain ⟨v, rfl, r1⟩ := one_of r
  obtain rfl : v = .ref p := r1
  obtain ⟨xs, h1, h2⟩ := a.cellD hp
  refine ⟨p, xs, rfl, .inl ⟨.inl (.inl h1), fun l hl => ?_⟩⟩
  obtain ⟨a2, e2⟩ := a.alloc (o := .tup xs) hl
  exact q A _ _ _ _ h e2 a2 (.tup (SqT.of upd_same) (h2.mono e2))
theorem dt_mem {F : Hp} : ∀ {xs : List V} {ds : List PyData}, DtAll K F xs ds → ∀ p ∈ xs.zip ds, Dt K F p.1 p.2
  | _, _, .nil, p, h => by simp at h
  | _, _, .cons h t, p, hp => by
    rw [List.zip_cons_cons] at hp
    rcases List.mem_cons.mp hp with rfl | hp
    · exact h
    · exact dt_mem t p hp
theorem dt_of {F : Hp} : ∀ {zs : List (V × PyData)}, (∀ p ∈ zs, Dt K F p.1 p.2) → DtAll K F (zs.map Prod.fst) (zs.map Prod.snd)
  | [], _ => .nil
  | z :: zs, h => .cons (h z List.mem_cons_self) (dt_of fun p hp => h p (List.mem_cons_of_mem _ hp))
theorem dpall_of {F : Hp} : ∀ {xs : List V} {ds : List PyData}, DtAll K F xs ds → DpAll K F xs ds
  | _, _, .nil => .nil
  | _, _, .cons h t => .cons h.dp (dpall_of t)
theorem sort_dt {F : Hp} {xs : List V} {ds : List PyData} (h : DtAll K F xs ds) : DtAll K F (((xs.zip ds).mergeSort (PySem.W.dataLe false Prod.snd)).map Prod.fst) (dsort ds) := by
  have e : ((xs.zip ds).mergeSort (PySem.W.dataLe false Prod.snd)).map Prod.snd = dsort ds := by
    rw [PySem.W.sort_maps (r := PySem.W.dataLe false Prod.snd) (s := PySem.W.dataLe false id) Prod.snd (fun _ _ _ _ => rfl), List.map_snd_zip (by rw [h.length]; exact Nat.le_refl _)]
  rw [← e]
  exact dt_of fun p hp => dt_mem h p ((List.mergeSort_perm _ _).mem_iff.mp hp)
/-- sorted(x) of a list of data: a new list, one's own -/
theorem cw_sortL {ds : List PyData} (hal : PySem.W.AllAlike ds) (hk : PySem.W.Sortable ds) (hdep : ∀ d ∈ ds, d.depth ≤ 60) (h : ∀ p, k (A.add p (.lst ((dsort ds).map .dat))) (.ptr p)) : CW K (rSortedD K) [.dat (.list ds)] A k := fun R F H vs Q a r q => by
  obtain ⟨v, rfl, r1⟩ := one_of r
  obtain ⟨p, xs, rfl, h1, h2⟩ := sr_lst r1
  exact ⟨p, xs, ds, rfl, .inl (.inl (a.same _ _ h1)), dpall_of (h2.mono a.same), hal, hk, hdep, fun l hl => q _ _ _ _ _ (h l) (Same.refl F) (a.new (o := .lst _) (c := .lst ((dsort ds).map .dat)) hl ⟨_, upd_same, dats_srs (sort_dt h2)⟩) rfl⟩
theorem cw_sortP {p : Addr} {ds : List PyData} (hp : (p, .lst (ds.map .dat)) ∈ A.cells) (hal : PySem.W.AllAlike ds) (hk : PySem.W.Sortable ds) (hdep : ∀ d ∈ ds, d.depth ≤ 60) (h : ∀ p, k (A.add p (.lst ((dsort ds).map .dat))) (.ptr p)) : CW K (rSortedD K) [.ptr p] A k := fun R F H vs Q a r q => by
  obtain ⟨v, rfl, r1⟩ := one_of r
  obtain rfl : v = .ref p := r1
  obtain ⟨xs, h1, h2⟩ := a.cellD hp
  exact ⟨p, xs, ds, rfl, .inl (.inl h1), dpall_of (h2.mono a.same), hal, hk, hdep, fun l hl => q _ _ _ _ _ (h l) (Same.refl F) (a.new (o := .lst _) (c := .lst ((dsort ds).map .dat)) hl ⟨_, upd_same, dats_srs (sort_dt h2)⟩) rfl⟩

/-! ### methods of owned lists -/
/-- xs.append(e) -/
theorem wp_append (h : Wp K A ta S fun A1 s => ∃ p xs, s = .ptr p ∧ (p, .lst xs) ∈ A1.cells ∧ Wp K A1 te S fun A2 s2 => ∃ xs l', Upd A2.cells p (.lst xs) (.lst (xs ++ [s2])) l' ∧ xs.length < sizeLine ∧ k ⟨A2.I, l'⟩ (.dat .none)) :
    Wp K A (tBM K "list" rAppend ta (tCons te tNil)) S k := fun R F σ H Q a sd q =>
  h R F σ H _ a sd fun A1 s v F1 H1 ⟨p, xs, hs, hp, hw⟩ e1 a1 r1 => by
    subst hs
    obtain rfl : v = .ref p := r1
    obtain ⟨us, h1, h2⟩ := a1.cell hp
    refine ⟨.inl ⟨rfl, us, .inl (.inl h1)⟩, hw R F1 σ H1 _ a1 (sd.mono e1) fun A2 s2 w F2 H2 ⟨ys, l', hu, hl, hk⟩ e2 a2 r2 => ?_⟩
    obtain ⟨ws, h3, h4⟩ := a2.cell hu.mem
    refine ⟨p, ws, w, rfl, rfl, h3, by rw [h4.length]; exact hl, ?_⟩
    exact q _ _ _ _ _ hk (e1.trans e2) (a2.put hu ⟨_, upd_same, papp h4 (.cons r2 .nil)⟩) .non
theorem paired_last {α β : Type} {R : α → β → Prop} {as : List α} {bs : List β} (h : Paired R as bs) {b : β} (e : bs[bs.length - 1]? = some b) : ∃ a, as[as.length - 1]? = some a ∧ R a b := by
  rw [h.length]
  exact pget h e
theorem paired_init {α β : Type} {R : α → β → Prop} : ∀ {as : List α} {bs : List β}, Paired R as bs → Paired R as.dropLast bs.dropLast
  | _, _, .nil => .nil
  | _, _, .cons _ .nil => .nil
  | _, _, .cons r (.cons r2 t) => .cons r (paired_init (.cons r2 t))
theorem paired_erase {α β : Type} {R : α → β → Prop} : ∀ {as : List α} {bs : List β} (k : Nat), Paired R as bs → Paired R (as.eraseIdx k) (bs.eraseIdx k)
  | _, _, _, .nil => .nil
  | _, _, 0, .cons _ t => t
  | _, _, k + 1, .cons r t => .cons r (paired_erase k t)
/-- xs.pop() -/
theorem wp_pop (h : Wp K A ta S fun A1 s => ∃ p xs x l', s = .ptr p ∧ Upd A1.cells p (.lst xs) (.lst xs.dropLast) l' ∧ xs[xs.length - 1]? = some x ∧ k ⟨A1.I, l'⟩ x) : Wp K A (tBM0 K "list" rPop ta) S k := fun R F σ H Q a sd q =>
  h R F σ H _ a sd fun A1 s v F1 H1 ⟨p, xs, x, l', hs, hu, hx, hk⟩ e1 a1 r1 => by
    subst hs
    obtain rfl : v = .ref p := r1
    obtain ⟨us, h1, h2⟩ := a1.cell hu.mem
    obtain ⟨w, h3, h4⟩ := paired_last h2 hx
    exact ⟨.inl ⟨rfl, us, .inl (.inl h1)⟩, p, us, w, rfl, rfl, h1, h3, q _ _ _ _ _ hk e1 (a1.put hu ⟨_, upd_same, paired_init h2⟩) h4⟩
/-- xs.clear() -/
theorem wp_clear (h : Wp K A ta S fun A1 s => ∃ p xs l', s = .ptr p ∧ Upd A1.cells p (.lst xs) (.lst []) l' ∧ k ⟨A1.I, l'⟩ (.dat .none)) : Wp K A (tBM0 K "list" rClear ta) S k := fun R F σ H Q a sd q =>
  h R F σ H _ a sd fun A1 s v F1 H1 ⟨p, xs, l', hs, hu, hk⟩ e1 a1 r1 => by
    subst hs
    obtain rfl : v = .ref p := r1
    obtain ⟨us, h1, h2⟩ := a1.cell hu.mem
    exact ⟨.inl ⟨rfl, us, .inl (.inl h1)⟩, p, us, rfl, rfl, h1, q _ _ _ _ _ hk e1 (a1.put hu ⟨_, upd_same, .nil⟩) .non⟩

/-! ### owned dicts -/
def lookS {κ : Type} [DecidableEq κ] (kvs : List (κ × SV)) (x : κ) : Option SV := (kvs.find? fun kv => decide (kv.1 = x)).map (·.2)
def putS {κ : Type} [DecidableEq κ] (kvs : List (κ × SV)) (x : κ) (v : SV) : List (κ × SV) :=
  if (kvs.any fun kv => decide (kv.1 = x)) = true then kvs.map (fun kv => if kv.1 = x then (kv.1, v) else kv) else kvs ++ [(x, v)]
section
variable {κ : Type} [DecidableEq κ] {F : Hp}
theorem kvr_look : ∀ {vs : List (κ × V)} {kvs : List (κ × SV)} {x : κ}, KVR K F vs kvs → (∀ s, lookS kvs x = some s → ∃ v, valV vs x = some v ∧ SR K F v s) ∧ (lookS kvs x = none → valV vs x = none)
  | _, _, x, .nil => ⟨fun s h => (by cases h), fun _ => rfl⟩
  | _, _, x, .cons (a := a) (b := b) (l₁ := l₁) (l₂ := l₂) r t => by
    obtain ⟨r1, r2⟩ := r
    have e1 : valV (a :: l₁) x = if a.1 = x then some a.2 else valV l₁ x := by
      unfold valV
      rw [List.find?_cons]
      by_cases h : a.1 = x
      · simp [h]
      · simp [h]
    have e2 : lookS (b :: l₂) x = if b.1 = x then some b.2 else lookS l₂ x := by
      unfold lookS
      rw [List.find?_cons]
      by_cases h : b.1 = x
      · simp [h]
      · simp [h]
    rw [e1, e2, ← r1]
    obtain ⟨i1, i2⟩ := kvr_look (x := x) t
    by_cases h : a.1 = x
    · rw [if_pos h, if_pos h]
      exact ⟨fun s e => ⟨a.2, rfl, by rw [← Option.some.inj e]; exact r2⟩, fun e => (by cases e)⟩
    · rw [if_neg h, if_neg h]
      exact ⟨i1, i2⟩
theorem kvr_any {x : κ} : ∀ {vs : List (κ × V)} {kvs : List (κ × SV)}, KVR K F vs kvs → (vs.any fun kv => decide (kv.1 = x)) = kvs.any fun kv => decide (kv.1 = x)
  | _, _, .nil => rfl
  | _, _, .cons r t => by
    rw [List.any_cons, List.any_cons, kvr_any t, r.1]
theorem kvr_map {x : κ} {v : V} {s : SV} (r : SR K F v s) : ∀ {vs : List (κ × V)} {kvs : List (κ × SV)}, KVR K F vs kvs → KVR K F (vs.map fun kv => if kv.1 = x then (kv.1, v) else kv) (kvs.map fun kv => if kv.1 = x then (kv.1, s) else kv)
  | _, _, .nil => .nil
  | _, _, .cons (a := a) (b := b) q t => by
    refine .cons ?_ (kvr_map r t)
    show (if a.1 = x then (a.1, v) else a).1 = (if b.1 = x then (b.1, s) else b).1 ∧ SR K F (if a.1 = x then (a.1, v) else a).2 (if b.1 = x then (b.1, s) else b).2
    by_cases h : a.1 = x
    · have hb : b.1 = x := q.1 ▸ h
      rw [if_pos h, if_pos hb]
      exact ⟨q.1, r⟩
    · have hb : ¬ b.1 = x := q.1 ▸ h
      rw [if_neg h, if_neg hb]
      exact q
theorem kvr_put {vs : List (κ × V)} {kvs : List (κ × SV)} {x : κ} {v : V} {s : SV} (h : KVR K F vs kvs) (r : SR K F v s) : KVR K F (putK vs x v) (putS kvs x s) := by
  unfold putK putS
  rw [kvr_any h]
  split
  · exact kvr_map r h
  · exact papp h (.cons ⟨rfl, r⟩ .nil)
end
def keyD : Key → PyData
  | .inl i => .int i
  | .inr x => .str x
theorem keyD_v {F : Hp} {v : V} {x : Key} (r : SR K F v (.dat (keyD x))) : v = kV x := by
  cases x with
  | inl i => exact sr_int r
  | inr z => exact sr_str r
/-- d[k], k there -/
theorem wp_dget (h : Wp K A td S fun A1 s => Wp K A1 ty S fun A2 s2 => ∃ p kvs x v, s = .ptr p ∧ s2 = .dat (keyD x) ∧ (p, .dk kvs) ∈ A2.cells ∧ lookS kvs x = some v ∧ k A2 v) : Wp K A (tDGet td ty) S k := fun R F σ H Q a sd q =>
  h R F σ H _ a sd fun A1 s v F1 H1 h1 e1 a1 r1 => h1 R F1 σ H1 _ a1 (sd.mono e1) fun A2 s2 w F2 H2 ⟨p, kvs, x, z, hs, hs2, hp, hz, hk⟩ e2 a2 r2 => by
    subst hs; subst hs2
    obtain rfl : v = .ref p := r1
    obtain rfl := keyD_v r2
    obtain ⟨vs, h3, h4⟩ := a2.cell hp
    obtain ⟨y, h5, h6⟩ := (kvr_look h4).1 z hz
    exact ⟨p, y, rfl, by rw [← h5]; exact DGet.k h3, q A2 _ _ F2 H2 hk (e1.trans e2) a2 h6⟩
/-- d[k] = v -/
theorem go_dput (h : Wp K A tv S fun A1 s => Wp K A1 td S fun A2 s2 => Wp K A2 ty S fun A3 s3 => ∃ p kvs x l', s2 = .ptr p ∧ s3 = .dat (keyD x) ∧ Upd A3.cells p (.dk kvs) (.dk (putS kvs x s)) l' ∧ kvs.length < sizeLine ∧ E.nx ⟨A3.I, l'⟩ S) : Go K A (sDPut td ty tv) S E := fun R F σ H D a sd o =>
  h R F σ H _ a sd fun A1 s v F1 H1 h1 e1 a1 r1 => h1 R F1 σ H1 _ a1 (sd.mono e1) fun A2 s2 w F2 H2 h2 e2 a2 r2 => h2 R F2 σ H2 _ a2 ((sd.mono e1).mono e2) fun A3 s3 u F3 H3 ⟨p, kvs, x, l', hs, hs2, hu, hl, hk⟩ e3 a3 r3 => by
    subst hs; subst hs2
    obtain rfl : w = .ref p := r2
    obtain rfl := keyD_v r3
    obtain ⟨vs, h3, h4⟩ := a3.cell hu.mem
    exact ⟨p, _, rfl, DPut.k h3 (by rw [h4.length]; exact hl), o.nx _ _ _ _ _ hk ((e1.trans e2).trans e3) (a3.put hu ⟨_, upd_same, kvr_put h4 (r1.mono (e2.trans e3))⟩) (sd.mono ((e1.trans e2).trans e3))⟩

/-! ### defs -/
/-- a def's promise, told by data: W of arguments, what is owned, and what is wanted of the answer -/
def spW (K : PySem.W.Frag) (W : List SV → Amb → KA → Prop) : Sp := fun vs H Q _ => ∃ A R F ss k, AtR K A R F H ∧ SRs K F vs ss ∧ W ss A k ∧ OutV K R F Q k
theorem wp_call {W : List SV → Amb → KA → Prop} {EX : XK} {ta : TA} (h : WpA K A ta S fun A1 ss => W ss A1 k) : Wp K A (tCall (spW K W) [] EX ta) S k := fun R F σ H Q a sd q =>
  h R F σ H _ a sd fun A1 ss vs F1 H1 h1 e1 a1 r1 => by
    show spW K W (vs ++ []) H1 Q EX
    rw [List.append_nil]
    exact ⟨A1, R, F1, ss, k, a1, r1, h1, q.mono e1⟩
theorem wp_callK {W : List SV → Amb → KA → Prop} {EX : XK} {ta tk : TA} {gV : List V → List V → List V} (gS : List SV → List SV → List SV) (hg : ∀ F vs ws ss ts, SRs K F vs ss → SRs K F ws ts → SRs K F (gV vs ws) (gS ss ts))
    (h : WpA K A ta S fun A1 ss => WpA K A1 tk S fun A2 ts => W (gS ss ts) A2 k) : Wp K A (tCallK (spW K W) gV EX ta tk) S k := fun R F σ H Q a sd q =>
  h R F σ H _ a sd fun A1 ss vs F1 H1 h1 e1 a1 r1 => h1 R F1 σ H1 _ a1 (sd.mono e1) fun A2 ts ws F2 H2 h2 e2 a2 r2 => ⟨A2, R, F2, _, k, a2, hg _ _ _ _ _ (SRs.mono e2 r1) r2, h2, q.mono (e1.trans e2)⟩
theorem fn_go {P : Program} {w : World} {mg : Str → Option Value} {base : Heap} {x qual : Str} {st : Stmt} {f : Addr} {fd : FuncData} {N ps : List Str} {n : Nat} {W : List SV → Amb → KA → Prop} (F : Fun K x qual st f fd) (Sc : FnScope N ps (defScope st))
    (len : ∀ ss A k, W ss A k → ss.length = ps.length)
    (hbody : ∀ (cdv : Value) (A : Around) (outer : List Env) (s : Shared) (H : Hp) (E : XK), Room n (A.deeper (PyProof.Rows.envOfC qual (defScope st) s.heap.objs.size f cdv)) →
      ∃ t, PSs (cxOf CX0 P w K mg base N qual (defScope st) f cdv A outer s H E).nox (defBody st) t ∧ ∀ ss A k, W ss A k → Go K A t (ss ++ List.replicate (N.length - ss.length) .no) ⟨fun A1 _ => k A1 (.dat .none), fun _ _ => False, fun _ _ => False, k⟩) :
    FnOk P w K mg base CX0 (n + 1) f fd ps (spW K W) := by
  refine F.ok Sc (fun vs H Q E h => ?_) (fun cdv A outer s H vs Q E hr h => ?_)
  · obtain ⟨B, R, G, ss, k, a, r, hw, q⟩ := h
    rw [r.length]
    exact len ss B k hw
  · obtain ⟨B, R, G, ss, k, a, r, hw, q⟩ := h
    obtain ⟨t, ht, go⟩ := hbody cdv A outer s H E hr
    refine ⟨t, ht, go ss B k hw R G _ H _ a (SD.start N r) ⟨fun A1 S1 F1 σ1 H1 h1 e1 a1 _ => q A1 _ _ F1 H1 h1 e1 a1 .non, fun A1 S1 F1 σ1 H1 h1 => h1.elim, fun A1 S1 F1 σ1 H1 h1 => h1.elim, q⟩⟩

/-! ### blocks -/
theorem paired_hh {F F' H H' : Hp} (e : Same F F') : ∀ {ps : List Addr} {cs : List Cell}, Paired (fun p c => CellAt K F H p c) ps cs → (∀ c ∈ ps, H' c = H c) → Paired (fun p c => CellAt K F' H' p c) ps cs
  | _, _, .nil, _ => .nil
  | _, _, .cons r t, hh => .cons (r.mono e (hh _ List.mem_cons_self)) (paired_hh e t fun c hc => hh c (List.mem_cons_of_mem _ hc))
theorem paired_here {F H : Hp} {c : Addr} : ∀ {ps : List Addr} {cs : List Cell}, Paired (fun p c => CellAt K F H p c) ps cs → c ∈ ps → H c ≠ none
  | _, _, .nil, hm => by simp at hm
  | _, _, .cons r t, hm => by
    rcases List.mem_cons.mp hm with e | hm
    · rw [e]
      exact r.here
    · exact paired_here t hm
def Blk.of (K : PySem.W.Frag) (ps : List Addr) (C : List Cell → Prop) : Blk where
  cs := ps
  G := fun F H => ps.Nodup ∧ ∃ cs, C cs ∧ Paired (fun p c => CellAt K F H p c) ps cs
  ext := fun {F F' H H'} e hh ⟨nd, cs, hc, hp⟩ => ⟨nd, cs, hc, by
    exact paired_hh e hp hh⟩
  here := fun {F H c} ⟨nd, cs, hc, hp⟩ hm => paired_here hp hm
theorem paired_zip {α β : Type} {R : α → β → Prop} : ∀ {as : List α} {bs : List β}, Paired R as bs → ∀ p ∈ as.zip bs, R p.1 p.2
  | _, _, .nil, p, h => by simp at h
  | _, _, .cons h t, p, hp => by
    rw [List.zip_cons_cons] at hp
    rcases List.mem_cons.mp hp with rfl | hp
    · exact h
    · exact paired_zip t p hp
theorem AtR.open {ps : List Addr} {C : List Cell → Prop} {l R : List (Addr × Cell)} {F H : Hp} (a : AtR K ⟨Blk.of K ps C, l⟩ R F H) : ∃ cs, C cs ∧ cs.length = ps.length ∧ AtR K ⟨Blk.nil, ps.zip cs ++ l⟩ R F H := by
  obtain ⟨nd, cs, hc, hp⟩ := a.blk
  refine ⟨cs, hc, hp.length.symm, a.same, trivial, fun c hc => by simp [Blk.nil] at hc, fun p c h => ?_, ?_⟩
  · have h' : (p, c) ∈ ps.zip cs ++ l ++ R := h
    rw [List.append_assoc] at h'
    rcases List.mem_append.mp h' with h1 | h1
    · exact ⟨a.bfree p (List.of_mem_zip h1).1, by simp [Blk.nil], paired_zip hp _ h1⟩
    · obtain ⟨f1, f2, f3⟩ := At.cell a p c h1
      exact ⟨f1, by simp [Blk.nil], f3⟩
  · show ((ps.zip cs ++ l ++ R).map (·.1)).Nodup
    rw [List.append_assoc, List.map_append, List.map_fst_zip (by rw [hp.length]; exact Nat.le_refl _)]
    refine List.nodup_append.mpr ⟨nd, a.nd, fun x hx y hy e => ?_⟩
    obtain ⟨⟨q, c⟩, hq, rfl⟩ := List.mem_map.mp hy
    subst e
    exact (At.cell a _ _ hq).2.1 hx
theorem paired_of_zip {ps : List Addr} {cs : List Cell} {F H : Hp} (hl : ps.length = cs.length) (h : ∀ p ∈ ps.zip cs, CellAt K F H p.1 p.2) : Paired (fun p c => CellAt K F H p c) ps cs := by
  induction ps generalizing cs with
  | nil =>
    cases cs with
    | nil => exact .nil
    | cons c cs => simp at hl
  | cons p ps ih =>
    cases cs with
    | nil => simp at hl
    | cons c cs => exact .cons (h (p, c) (by simp)) (ih (by simpa using hl) fun q hq => h q (by simp [hq]))
theorem AtR.close {ps : List Addr} {C : List Cell → Prop} {cs : List Cell} {l R : List (Addr × Cell)} {F H : Hp} (hc : C cs) (hl : cs.length = ps.length) (a : AtR K ⟨Blk.nil, ps.zip cs ++ l⟩ R F H) : AtR K ⟨Blk.of K ps C, l⟩ R F H := by
  have nd : (ps ++ (l ++ R).map (·.1)).Nodup := by
    have h := a.nd
    have h' : ((ps.zip cs ++ l ++ R).map (·.1)).Nodup := h
    rw [List.append_assoc, List.map_append, List.map_fst_zip (by rw [hl]; exact Nat.le_refl _)] at h'
    exact h'
  obtain ⟨n1, n2, n3⟩ := List.nodup_append.mp nd
  refine ⟨a.same, ⟨n1, cs, hc, paired_of_zip hl.symm fun q hq => (At.cell a q.1 q.2 (List.mem_append_left _ (List.mem_append_left _ hq))).2.2⟩, fun c hcs => ?_, fun p c h => ?_, n2⟩
  · have hcs' : c ∈ ps := hcs
    obtain ⟨i, hi, rfl⟩ := List.getElem_of_mem hcs'
    have hi2 : i < cs.length := by omega
    have hz : (ps[i], cs[i]) ∈ ps.zip cs := by
      refine List.mem_iff_getElem.mpr ⟨i, by rw [List.length_zip]; omega, ?_⟩
      simp
    exact (At.cell a _ _ (List.mem_append_left _ (List.mem_append_left _ hz))).1
  · have h' : (p, c) ∈ l ++ R := h
    have h2 : (p, c) ∈ ps.zip cs ++ l ++ R := by
      rw [List.append_assoc]
      exact List.mem_append_right _ h'
    obtain ⟨f1, _, f3⟩ := At.cell a p c h2
    exact ⟨f1, fun hp => n3 p hp p (List.mem_map.mpr ⟨(p, c), h', rfl⟩) rfl, f3⟩
def closeS (K : PySem.W.Frag) (ps : List Addr) (C : List Cell → Prop) (k : KS) : KS := fun A S => ∃ cs l, A = ⟨Blk.nil, ps.zip cs ++ l⟩ ∧ cs.length = ps.length ∧ C cs ∧ k ⟨Blk.of K ps C, l⟩ S
def closeV (K : PySem.W.Frag) (ps : List Addr) (C : List Cell → Prop) (k : KA) : KA := fun A s => ∃ cs l, A = ⟨Blk.nil, ps.zip cs ++ l⟩ ∧ cs.length = ps.length ∧ C cs ∧ k ⟨Blk.of K ps C, l⟩ s
@[reducible] def DE.close (K : PySem.W.Frag) (ps : List Addr) (C : List Cell → Prop) (E : DE) : DE := ⟨closeS K ps C E.nx, closeS K ps C E.bk, closeS K ps C E.ct, closeV K ps C E.rt⟩
theorem go_open {ps : List Addr} {C : List Cell → Prop} {l : List (Addr × Cell)} (h : ∀ cs, C cs → cs.length = ps.length → Go K ⟨Blk.nil, ps.zip cs ++ l⟩ tu S (E.close K ps C)) : Go K ⟨Blk.of K ps C, l⟩ tu S E := fun R F σ H D a sd o => by
  obtain ⟨cs, hc, hl, a2⟩ := a.open
  refine h cs hc hl R F σ H D a2 sd ⟨fun A1 S1 F1 σ1 H1 ⟨cs1, l1, e1, e2, e3, e4⟩ e5 a5 sd5 => ?_, fun A1 S1 F1 σ1 H1 ⟨cs1, l1, e1, e2, e3, e4⟩ e5 a5 sd5 => ?_, fun A1 S1 F1 σ1 H1 ⟨cs1, l1, e1, e2, e3, e4⟩ e5 a5 sd5 => ?_, fun A1 s1 v1 F1 H1 ⟨cs1, l1, e1, e2, e3, e4⟩ e5 a5 r5 => ?_⟩
  · subst e1
    exact o.nx _ _ _ _ _ e4 e5 (a5.close e3 e2) sd5
  · subst e1
    exact o.bk _ _ _ _ _ e4 e5 (a5.close e3 e2) sd5
  · subst e1
    exact o.ct _ _ _ _ _ e4 e5 (a5.close e3 e2) sd5
  · subst e1
    exact o.rt _ _ _ _ _ e4 e5 (a5.close e3 e2) r5
/-- owned objects become a block -/
theorem go_seal {ps : List Addr} {C : List Cell → Prop} {cs : List Cell} {l : List (Addr × Cell)} (hc : C cs) (hl : cs.length = ps.length) (h : Go K ⟨Blk.of K ps C, l⟩ tu S E) : Go K ⟨Blk.nil, ps.zip cs ++ l⟩ tu S E := fun R F σ H D a sd o => h R F σ H D (a.close hc hl) sd o
end
end DL

/-! The data layer: the law's own def, called at the top, where nothing is being shown (so repr may be told); repr, isinstance. -/
namespace DL
open PySem L2

/-! ### repr, isinstance -/
def rReprD (K : PySem.W.Frag) : List V → Hp → VK → Prop := fun vs H Q => ∃ (a : Addr) (d : PyData), vs = [V.ref a] ∧ Dp K H (.ref a) d ∧ d.showable = true ∧ d.hasDict = false ∧ d.depth ≤ 60 ∧ d.shown.length ≤ sizeLine ∧ Q (.str d.shown) H
section
variable {X : Cx}
theorem cr_reprD (hu : X.A.units + 65 < cLine) (hg : X.A.guards = some []) : CallR X (.builtin "repr") (rReprD X.K) := by
  intro pins s σ H vs us Q I r h
  obtain ⟨a, d, rfl, hd, hs, hn, hdep, hz, q⟩ := h
  rw [Vals.ref1 r]
  obtain ⟨as, hr⟩ := Dp.reads I d (.ref a) (.ref a) hd rfl
  exact repr_of_reads' hr hs (PyData.noDict_hsm hn) hg (by omega) (fun _ _ e => e) (fun h' u tk hk => ⟨.str d.shown, H, I.kept hk, ⟨u, rfl⟩, q⟩) hz
def isK (T : String) (d : PyData) : Bool := match T with
  | "list" => d.isList
  | "tuple" => d.isTuple
  | "str" => d.isStr
  | "int" => d.isInt
  | "bool" => d.isBool
  | "dict" => d.isDict
  | _ => false
def kinds : List String := ["list", "tuple", "str", "int", "bool", "dict"]
def rIsiD (K : PySem.W.Frag) : List V → Hp → VK → Prop := fun vs H Q => ∃ (x : V) (T : String) (d : PyData), vs = [x, .ty T] ∧ T ∈ kinds ∧ Dp K H x d ∧ Q (.bl (isK T d)) H
theorem call_isiD : CallR X (.builtin "isinstance") (rIsiD X.K) := by
  intro pins s σ H vs us Q I r h
  obtain ⟨x, T, d, rfl, hT, hd, q⟩ := h
  cases r with
  | cons r1 r2 =>
    cases r2 with
    | cons r3 r4 =>
      cases r4
      rename_i u1 u2
      obtain rfl : u2 = Value.type T := r3
      obtain ⟨as, hr⟩ := Dp.reads I d x u1 hd r1
      simp only [kinds, List.mem_cons, List.not_mem_nil, or_false] at hT
      rcases hT with rfl | rfl | rfl | rfl | rfl | rfl
      · exact PySem.W.isinstance_list_data hr fun tk _ => ⟨.bl d.isList, H, I.tok tk, rfl, q⟩
      · exact PySem.W.isinstance_tuple_data hr fun tk _ => ⟨.bl d.isTuple, H, I.tok tk, rfl, q⟩
      · exact PySem.W.isinstance_str_data hr fun tk _ => ⟨.bl d.isStr, H, I.tok tk, rfl, q⟩
      · exact PySem.W.isinstance_int_data hr fun tk _ => ⟨.bl d.isInt, H, I.tok tk, rfl, q⟩
      · exact PySem.W.isinstance_bool_data hr fun tk _ => ⟨.bl d.isBool, H, I.tok tk, rfl, q⟩
      · exact PySem.W.isinstance_dict_data hr fun tk _ => ⟨.bl d.isDict, H, I.tok tk, rfl, q⟩
end
section
variable {K : PySem.W.Frag} {A A' : Amb} {S S' : List SV} {k k' : KA} {ta tb te td ty tv : TE} {t u : TT} {s s1 s2 : SV} {E : DE} {tu tw : TS}
theorem wp_isi {T : String} (hT : T ∈ kinds) (h : Wp K A ta S fun A1 s => ∃ d, s = .dat d ∧ k A1 (.dat (.bool (isK T d)))) : Wp K A (tCB (rIsiD K) (tCons ta (tCons (tC (.ty T)) tNil))) S k := fun R F σ H Q a sd q =>
  h R F σ H _ a sd fun A1 s v F1 H1 ⟨d, hs, hk⟩ e1 a1 r1 => by
    subst hs
    exact ⟨v, T, d, rfl, hT, (Dt.mono a1.same r1).dp, q A1 _ _ F1 H1 hk e1 a1 (.bl _)⟩
/-- isinstance of an owned list -/
theorem wp_isiP {T : String} (hT : T ∈ kinds) (h : Wp K A ta S fun A1 s => ∃ p ds, s = .ptr p ∧ (p, .lst (ds.map .dat)) ∈ A1.cells ∧ k A1 (.dat (.bool (isK T (.list ds))))) : Wp K A (tCB (rIsiD K) (tCons ta (tCons (tC (.ty T)) tNil))) S k := fun R F σ H Q a sd q =>
  h R F σ H _ a sd fun A1 s v F1 H1 ⟨p, ds, hs, hp, hk⟩ e1 a1 r1 => by
    subst hs
    obtain rfl : v = .ref p := r1
    exact ⟨_, T, .list ds, rfl, hT, a1.cellP hp, q A1 _ _ F1 H1 hk e1 a1 (.bl _)⟩
theorem cw_reprD {d : PyData} (hc : (∃ ds, d = .list ds) ∨ ∃ ds, d = .tuple ds) (hs : d.showable = true) (hn : d.hasDict = false) (hd : d.depth ≤ 60) (hz : d.shown.length ≤ sizeLine) (h : k A (.dat (.str d.shown))) : CW K (rReprD K) [.dat d] A k := fun R F H vs Q a r q => by
  obtain ⟨v, rfl, r1⟩ := one_of r
  have hp : Dp K H v d := (Dt.mono a.same r1).dp
  rcases hc with ⟨ds, rfl⟩ | ⟨ds, rfl⟩
  · obtain ⟨p, xs, rfl, h1, h2⟩ := sr_lst r1
    exact ⟨p, _, rfl, hp, hs, hn, hd, hz, q A _ _ F H h (Same.refl F) a (.str _)⟩
  · obtain ⟨p, xs, rfl, h1, h2⟩ := sr_tup r1
    exact ⟨p, _, rfl, hp, hs, hn, hd, hz, q A _ _ F H h (Same.refl F) a (.str _)⟩
theorem cw_reprP {p : Addr} {ds : List PyData} (hp : (p, .lst (ds.map .dat)) ∈ A.cells) (hs : (PyData.list ds).showable = true) (hn : (PyData.list ds).hasDict = false) (hd : (PyData.list ds).depth ≤ 60) (hz : (PyData.list ds).shown.length ≤ sizeLine) (h : k A (.dat (.str (PyData.list ds).shown))) : CW K (rReprD K) [.ptr p] A k := fun R F H vs Q a r q => by
  obtain ⟨v, rfl, r1⟩ := one_of r
  obtain rfl : v = .ref p := r1
  exact ⟨p, _, rfl, a.cellP hp, hs, hn, hd, hz, q A _ _ F H h (Same.refl F) a (.str _)⟩
end

/-! ### the law at the top -/
section
variable {P : Program} {w : World} {K : PySem.W.Frag} {mg mb : Str → Option Value} {fa a : Addr} {fd : FuncData} {x qual : Str} {st : Stmt} {N : List Str} {n : Nat} {s1 : Shared} {vs : List Value} {ns : List Int}
/-- what the law's body is to reach -/
abbrev TopE : DE := ⟨fun _ _ => False, fun _ _ => False, fun _ _ => False, fun _ s => s = .dat (.bool true)⟩
/-- the body of the law's def is a term whose reading goes, whatever the script -/
def LawGo (P : Program) (w : World) (K : PySem.W.Frag) (mg : Str → Option Value) (fa : Addr) (qual : Str) (st : Stmt) (N : List Str) (n m : Nat) : Prop :=
  ∀ (base : Heap) (cdv : Value) (s : Shared) (H : Hp), Room n (callerA.deeper (PyProof.Rows.envOfC qual (defScope st) s.heap.objs.size fa cdv)) →
    ∃ t, PSs (cxOf CX0 P w K mg base N qual (defScope st) fa cdv callerA [] s H E0).nox (defBody st) t ∧
      ∀ ns : List Int, ns.length ≤ m → (∀ z ∈ ns, Builtin.Int.intBits z ≤ 1048576) → Go K ⟨Blk.nil, []⟩ t (.scr ns :: List.replicate (N.length - 1) .no) TopE
theorem at_nil {H : Hp} : At K ⟨Blk.nil, []⟩ H H := ⟨Same.refl H, trivial, fun c hc => by simp [Blk.nil] at hc, fun p c h => by simp at h, List.nodup_nil⟩
/-- from a heap that knows of nothing but the script -/
theorem law_at {H : Hp} {m : Nat} (F : Fun K x qual st fa fd) (Sc : FnScope N ["script"] (defScope st)) (hb : ∀ (s : Shared) (u : Value), BindsTo s fd ⟨[u], []⟩ [("script", u)]) (hr : Room (n + 1) callerA) (L : LawGo P w K mg fa qual st N n m)
    (hl : ns.length ≤ m) (hbits : ∀ z ∈ ns, Builtin.Int.intBits z ≤ 1048576) {base : Heap} (e0 : Env0 P w K mg base callerA [] s1 H) (hS : SqL K H a (ns.map V.int)) :
    codeAny (model P w) callerA (.call (.ref fa) ⟨[.ref a], []⟩) (CR CX0 [] P w H s1 (fun v _ => v = .bl true) E0) s1 := by
  obtain ⟨oc, od, kV, doc, pm, an, cdv, ct, osl, rfl, lk, hcd⟩ := F.ex
  have KX : K.In s1.heap := e0.mod.kin.keeps fun b o e => (e0.bs b o e).1
  have lim : s1.heap.NoLimit := e0.mod.nolimit.keeps fun b o e => (e0.bs b o e).1
  have hk : ∀ y ∈ ([Str.ofString "script"] : List Str).zip [Value.ref a], (defScope st).names.lookup y.1 = some .local ∨ ((defScope st).names.lookup y.1 = some .cell ∧ ((PySem.cellsFrom (s1.heap.objs.size + 1) (defScope st).names []).lookup y.1).isSome = true) := by
    rintro ⟨z, u⟩ hy
    cases Sc.par z (List.of_mem_zip hy).1 with
    | inl q => exact .inl q
    | inr q => exact .inr ⟨q, PySem.W.cellsFrom_some _ _ _ (.inl q)⟩
  refine codeAny_call_function hr.depth (KX _ _ lk) rfl Sc.co Sc.gen rfl (PySem.W.codeRec_of KX hcd) (hb _ _ _ _ _ _ ?_)
  refine wpAny_newFunctionEnv_cells Sc.kind hk fun fr he s2 z => ?_
  subst he
  refine ⟨lim.keeps z.toInCall.keep, codeAny_func ?_⟩
  obtain ⟨t, ht, go⟩ := L base cdv s1 H (hr.deeper _)
  have hq : t { nx := fun _ H' => (fun v _ => v = V.bl true) V.non H', rt := fun v _ => v = .bl true } (L2.start N [.ref a]) H := by
    have sd : SD K H (L2.start N [.ref a]) (.scr ns :: List.replicate (N.length - 1) .no) := SD.start N (ss := [.scr ns]) (.cons ⟨a, rfl, hS⟩ .nil)
    exact go ns hl hbits [] H _ H _ at_nil sd ⟨fun _ _ _ _ _ h => h.elim, fun _ _ _ _ _ h => h.elim, fun _ _ _ _ _ h => h.elim, fun A s v F' H' h _ _ r => by
      have h' : s = .dat (.bool true) := h
      subst h'
      exact sr_bl r⟩
  have J : Inv (cxOf CX0 P w K mg base N qual (defScope st) fa cdv callerA [] s1 H E0) [] (L2.start N [.ref a]) H s2 := inv_start Sc hr.hd e0 rfl (.cons rfl .nil) z
  refine wpAny_mono (ht.nox.run [] s2 _ H _ J hq) (fun fl s' hs => ?_) fun e s' hs => hs
  cases fl with
  | ret u =>
    obtain ⟨v, σ', H', I', rv, q⟩ := hs
    exact ⟨v, H', I'.os, I'.bare, I'.base, I'.hok, rv, q⟩
  | next =>
    obtain ⟨σ', H', I', q⟩ := hs
    cases q
  | brk =>
    obtain ⟨_, _, _, q⟩ := hs
    exact q.elim
  | cont =>
    obtain ⟨_, _, _, q⟩ := hs
    exact q.elim
theorem env_at {H : Hp} (KX : K.In s1.heap) (hns : s1.heap.Ns mainGlobals mg) (hb : s1.heap.Ns builtinsNs mb) (hbb : ∀ x : Str, x ≠ "__name__" → mb x = bootBuiltins x) (hlim : s1.heap.NoLimit) (hg : s1.gens = #[])
    (ha : s1.heap.get? a = some { cls := .type "list", data := .seq vs.toArray }) (hok : HOk P w H s1.heap) (hA : ∀ b, H b ≠ none → b = a) (hK : H a ≠ none → K.lookup a = none) : Env0 P w K mg (hidT s1.heap H) callerA [] s1 H := by
  have dictFree : ∀ {b : Addr} {o : Obj} {es : Array DictEntry} {ep : Nat}, s1.heap.get? b = some o → o.data = .dict es ep → H b = none := by
    intro b o es ep e d
    cases q : H b with
    | none => rfl
    | some u =>
      have e' : b = a := hA b (by rw [q]; exact Option.some_ne_none u)
      rw [e', ha] at e
      rw [← Option.some.inj e] at d
      cases d
  have nsH : ∀ {b : Addr} {m : Str → Option Value}, s1.heap.Ns b m → (hidT s1.heap H).Ns b m := by
    rintro b m ⟨o, es, ep, e, d, r⟩
    exact ⟨o, es, ep, hidT_get e (dictFree e d), d, r⟩
  have kin : K.In (hidT s1.heap H) := by
    intro b o e
    refine hidT_get (KX b o e) ?_
    cases q : H b with
    | none => rfl
    | some u =>
      have e' : b = a := hA b (by rw [q]; exact Option.some_ne_none u)
      rw [e'] at e q
      rw [hK (by rw [q]; exact Option.some_ne_none u)] at e
      cases e
  refine ⟨rfl, ⟨kin, nsH hns, ⟨mb, nsH hb, hbb⟩, ?_⟩, fun b o e => of_hidT e, Nat.le_of_eq (hidT_size _ _), trivial, fun b hb => ?_, hok, .of_eq hg⟩
  · obtain ⟨mc, h1, h2⟩ := hlim
    exact ⟨mc, nsH h1, h2⟩
  · exact absurd (show b ∈ ([] : List Addr) from hb) (by simp)
end
theorem walk_top {l : PySem.W.OpenLaw} {n m : Nat} {q : Program} {loose : List Str} {XP : (Str → Option Value) → Heap → Prop} {YP : World → Heap → Prop} {d : DefRec} {K : Params → PySem.W.Frag}
    (hn : l.most = some m) (hn2 : m ≤ sizeLine) (hdf : d.params.defaults = []) (hr : Room (n + 1) callerA) (hY : ∀ (w : World) (h : Heap), YP w h → (K w.params).In h)
    (F : ∀ (w : World) (mg : Str → Option Value) (fa : Addr) (h : Heap), (K w.params).In h → h.Ns mainGlobals mg → mg d.name = some (.ref fa) → ∃ (x qual : Str) (st : Stmt) (fd : FuncData) (N : List Str),
      Fun (K w.params) x qual st fa fd ∧ FnScope N ["script"] (defScope st) ∧ (∀ (s : Shared) (u : Value), BindsTo s fd ⟨[u], []⟩ [("script", u)]) ∧ LawGo l.prog w (K w.params) mg fa qual st N n m) :
    PySem.W.WalkO q loose XP YP l.row.toRowW d [] (fun f vs => PySem.call f vs) := by
  refine Att.attach_callB hn hdf fun w s₀ s₁ mg mb fa o pm cd doc a vs ns G Y ho hd hcd hmg hobj hints hlen hbits hg => ?_
  have KX := hY w _ Y
  obtain ⟨x, qual, st, fd, N, f1, f2, f3, f4⟩ := F w mg fa _ KX G.T.g hmg
  have rv := vals_ints hints
  have hz : ns.length ≤ sizeLine := Nat.le_trans hlen hn2
  have fin : ∀ H : Hp, Only H → SqL (K w.params) H a (ns.map V.int) → HOk l.prog w H s₁.heap → (∀ b, H b ≠ none → b = a) → (H a ≠ none → (K w.params).lookup a = none) →
      codeAny (model l.prog w) callerA (.call (.ref fa) ⟨[.ref a], []⟩) (fun r s' => r = .ok (.ret (.bool true)) ∧ OldK s₁.heap s'.heap ∧ s'.os = s₁.os ∧ PyProof.Rows.AllBare s'.gens) s₁ := by
    intro H hO hS hok hA hK
    refine codeAny_mono (law_at f1 f2 f3 hr f4 hlen hbits (env_at KX G.T.g G.T.b G.T.builtins G.T.nolimit hg hobj hok hA hK) hS) fun r s' hq => ?_
    cases r with
    | error e => exact False.elim hq
    | ok fl =>
      cases fl with
      | next => exact False.elim hq
      | brk => exact False.elim hq
      | cont => exact False.elim hq
      | ret u =>
        obtain ⟨v, H', os, bare, un, hok', r', e⟩ := hq
        have e' : v = .bl true := e
        rw [e'] at r'
        have r2 : u = Value.bool true := r'
        rw [r2]
        refine ⟨rfl, OldK.of_keep fun b ob eb => ?_, os, bare⟩
        rcases hO b with z | ⟨oz, xs, z⟩
        · exact un.keep b ob eb z (by simp [frs]) (by simp)
        · have t1 := (hok b _ z).1
          have t2 := (hok' b _ (un.frzs b oz _ z)).1
          rw [eb] at t1
          rw [Option.some.inj t1]
          exact t2
  cases hk : (K w.params).lookup a with
  | some ob =>
    have e := KX a ob hk
    rw [hobj] at e
    rw [← Option.some.inj e] at hk
    refine fin (fun _ => none) (fun _ => .inl rfl) (.inr ⟨_, vs.toArray, _, hk, rfl, rfl, rfl, ?_, ?_⟩) (fun b u z => by cases z) (fun b z => absurd rfl z) fun z => absurd rfl z
    · rw [List.size_toArray, hints.length]
      exact hz
    · exact rv
  | none =>
    have one : ∀ {b : Addr} {u : HO}, (if b = a then some (HO.frz { cls := .type "list", data := .seq vs.toArray } (.lst (ns.map V.int))) else none) = some u → b = a ∧ u = HO.frz { cls := .type "list", data := .seq vs.toArray } (.lst (ns.map V.int)) := by
      intro b u z
      by_cases hb : b = a
      · rw [if_pos hb] at z
        exact ⟨hb, (Option.some.inj z).symm⟩
      · rw [if_neg hb] at z
        cases z
    refine fin (fun b => if b = a then some (HO.frz { cls := .type "list", data := .seq vs.toArray } (.lst (ns.map V.int))) else none) (fun b => ?_) (.inl (.inr ⟨_, if_pos rfl⟩)) (fun b u z => ?_) (fun b z => ?_) fun _ => hk
    · by_cases hb : b = a
      · exact .inr ⟨_, _, if_pos hb⟩
      · exact .inl (if_neg hb)
    · obtain ⟨e1, e2⟩ := one z
      subst e2
      subst e1
      exact ⟨hobj, by rw [List.length_map]; exact hz, vs, _, rv, hobj⟩
    · by_cases hb : b = a
      · exact hb
      · exact absurd (if_neg hb) z
end DL

/-! The data layer: comprehensions with two for. -/
namespace DL
open PySem L2
section
variable {K : PySem.W.Frag} {A A' : Amb} {S S' : List SV} {ta tb te tl : TE} {t u tt tt1 : TT} {s s1 s2 : SV} {E : DE} {tu tw : TS} {g g1 : TG} {wi wi1 : TI} {vs vs1 : List Nat} {k : KA}
theorem to_wipe (to : TOnly g vs) {x : V} {σ : St} {H : Hp} {Q : St → Hp → Prop} (h : g x (L2.wipe σ vs) H Q) : g x (L2.wipe σ vs) H fun σ2 H2 => L2.wipe σ2 vs = L2.wipe σ vs ∧ Q σ2 H2 := by
  have h2 := to x (L2.wipe σ vs) H _ h
  rw [wipe_idem] at h2
  exact h2
/-- the inner for, from what is made so far -/
def Lc2In (K : PySem.W.Frag) (wi1 : TI) (g1 : TG) (tt1 : TT) (te : TE) (S : List SV) (vs1 : List Nat) (A : Amb) (acc : List SV) (J' : KS) : Prop :=
  IW K A wi1 S fun A5 ys => ∃ J1 : Nat → KS, J1 0 A5 acc ∧ (∀ j s1, ys[j]? = some s1 → LcStep K g1 tt1 te S vs1 (J1 j) (J1 (j + 1)) s1) ∧ ∀ A6 acc1, J1 ys.length A6 acc1 → J' A6 acc1
theorem wp_lc2O (to : TOnly g vs) (to1 : TOnly g1 vs1) (h : IW K A wi S fun A1 xs => ∃ J : Nat → KS, J 0 A1 [] ∧ (∀ i s, xs[i]? = some s → ∀ A2 acc, J i A2 acc → GW K g s (wipeS S vs) A2 fun A3 S3 => WpT K A3 tt S3 fun A4 b =>
      (b = true → Lc2In K wi1 g1 tt1 te S3 vs1 A4 acc (J (i + 1))) ∧ (b = false → J (i + 1) A4 acc)) ∧ ∀ A2 acc, J xs.length A2 acc → ∀ p, k (A2.add p (.lst acc)) (.ptr p)) : Wp K A (tLc2 wi g tt wi1 g1 tt1 te vs vs1) S k := fun R F σ H Q a sd q => by
  refine h R F σ H _ a sd fun A1 xs F1 H1 J ⟨Jd, j0, js, je⟩ e1 a1 src p hp => ?_
  refine ⟨fun i m H' => m = xs.length - i ∧ i ≤ xs.length ∧ ∃ A2 acc F2, Jd i A2 acc ∧ Same F1 F2 ∧ AtR K A2 ((p, .lst acc) :: R) F2 H', ⟨_, rfl, Nat.zero_le _, A1, [], F1, j0, Same.refl F1, (a1.new (o := .lst []) (c := .lst []) hp ⟨[], upd_same, .nil⟩).back⟩, ?_⟩
  rintro i m H2 ⟨rfl, hi, A2, acc, F2, hj, e2, a2⟩
  by_cases hlt : i < xs.length
  · obtain ⟨hg, hy⟩ := (src _ F2 H2 i e2 a2).2 xs[i] (List.getElem?_eq_getElem hlt)
    refine .inr ⟨hg, fun H' => ∃ A3 acc3 F3, Jd (i + 1) A3 acc3 ∧ Same F2 F3 ∧ AtR K A3 ((p, .lst acc3) :: R) F3 H', fun H' ⟨A3, acc3, F3, h3, e3, a3⟩ => ⟨xs.length - (i + 1), by omega, rfl, hlt, A3, acc3, F3, h3, e2.trans e3, a3⟩, fun x H' y => ?_⟩
    obtain ⟨F3, e3, a3, r3⟩ := hy x H' y
    have sd3 := ((sd.mono e1).mono (e2.trans e3)).wipe vs
    refine to_wipe to ?_
    refine js i _ (List.getElem?_eq_getElem hlt) A2 acc hj ((p, .lst acc) :: R) F3 (L2.wipe σ vs) H' x _ a3 sd3 r3 ?_
    intro A4 S4 F4 σ4 H4 h4 e4 a4 sd4
    refine h4 _ F4 σ4 H4 _ a4 sd4 fun A5 b F5 H5 h5 e5 a5 => ?_
    cases b with
    | false => exact ⟨A5, acc, F5, h5.2 rfl, (e3.trans e4).trans e5, a5⟩
    | true =>
      have e25 : Same F2 F5 := (e3.trans e4).trans e5
      refine h5.1 rfl _ F5 σ4 H5 _ a5 (sd4.mono e5) fun A6 ys F6 H6 J1 ⟨Jd1, k0, ks, ke⟩ e6 a6 src1 => ?_
      refine ⟨fun j m H' => m = ys.length - j ∧ j ≤ ys.length ∧ ∃ A7 acc7 F7, Jd1 j A7 acc7 ∧ Same F6 F7 ∧ AtR K A7 ((p, .lst acc7) :: R) F7 H', ⟨_, rfl, Nat.zero_le _, A6, acc, F6, k0, Same.refl F6, a6⟩, ?_⟩
      rintro j m H7 ⟨rfl, hj', A7, acc7, F7, hj7, e7, a7⟩
      by_cases hlt1 : j < ys.length
      · obtain ⟨hg1, hy1⟩ := (src1 _ F7 H7 j e7 a7).2 ys[j] (List.getElem?_eq_getElem hlt1)
        refine .inr ⟨hg1, fun H' => ∃ A8 acc8 F8, Jd1 (j + 1) A8 acc8 ∧ Same F7 F8 ∧ AtR K A8 ((p, .lst acc8) :: R) F8 H', fun H' ⟨A8, acc8, F8, h8, e8, a8⟩ => ⟨ys.length - (j + 1), by omega, rfl, hlt1, A8, acc8, F8, h8, e7.trans e8, a8⟩, fun x1 H' y1 => ?_⟩
        obtain ⟨F8, e8, a8, r8⟩ := hy1 x1 H' y1
        have sd8 := ((((sd4.mono e5).mono e6).mono e7).mono e8).wipe vs1
        refine to_wipe to1 ?_
        refine ks j _ (List.getElem?_eq_getElem hlt1) A7 acc7 hj7 ((p, .lst acc7) :: R) F8 (L2.wipe σ4 vs1) H' x1 _ a8 sd8 r8 ?_
        intro A9 S9 F9 σ9 H9 h9 e9 a9 sd9
        refine h9 _ F9 σ9 H9 _ a9 sd9 fun A10 b F10 H10 h10 e10 a10 => ?_
        cases b with
        | false => exact ⟨A10, acc7, F10, h10.2 rfl, (e8.trans e9).trans e10, a10⟩
        | true =>
          refine h10.1 rfl _ F10 σ9 H10 _ a10 (sd9.mono e10) fun A11 s11 v11 F11 H11 ⟨hl, h11⟩ e11 a11 r11 => ?_
          obtain ⟨_, _, us, f3, f4⟩ := At.cell a11 p (.lst acc7) (List.mem_append_right _ List.mem_cons_self)
          refine ⟨us, f3, by rw [f4.length]; exact hl, A11, _, F11, h11, ((e8.trans e9).trans e10).trans e11, ?_⟩
          have a12 := (a11.front).put (o := .lst (us ++ [v11])) (c' := .lst (acc7 ++ [s11])) .head ⟨_, upd_same, papp f4 (.cons r11 .nil)⟩
          exact a12.back
      · have ej : j = ys.length := by omega
        subst ej
        exact .inl ⟨(src1 _ F7 H7 ys.length e7 a7).1 (Nat.le_refl _), A7, acc7, F7, ke A7 acc7 hj7, (e25.trans e6).trans e7, a7⟩
  · have ei : i = xs.length := by omega
    subst ei
    refine .inl ⟨(src _ F2 H2 xs.length e2 a2).1 (Nat.le_refl _), ?_⟩
    exact q _ _ _ F2 H2 (je A2 acc hj p) (e1.trans e2) a2.front rfl
theorem IW.imp {k k' : KS} (h : IW K A wi S k) (i : ∀ A s, k A s → k' A s) : IW K A wi S k' := fun R F σ H Q a sd q => h R F σ H Q a sd fun A1 xs F1 H1 J hk => q A1 xs F1 H1 J (i _ _ hk)
theorem GW.imp {k k' : KS} (h : GW K g s S A k) (i : ∀ A s, k A s → k' A s) : GW K g s S A k' := fun R F σ H v Q a sd r q => h R F σ H v Q a sd r fun A1 S1 F1 σ1 H1 hk => q A1 S1 F1 σ1 H1 (i _ _ hk)
theorem WpA.imp {ta : TA} {k k' : KS} (h : WpA K A ta S k) (i : ∀ A s, k A s → k' A s) : WpA K A ta S k' := fun R F σ H Q a sd q => h R F σ H Q a sd fun A1 xs F1 H1 J hk => q A1 xs F1 H1 J (i _ _ hk)
/-- steps that leave what is owned: a comprehension's for, from acc on -/
theorem lc_pure {acc : List SV} {f : SV → Option PyData} {xs : List SV} (hl : acc.length + xs.length ≤ sizeLine)
    (hs : ∀ (i : Nat) (s : SV), xs[i]? = some s → GW K g s (wipeS S vs) A fun A3 S3 => WpT K A3 tt S3 fun A4 b => (b = true → Wp K A4 te S3 fun A5 s5 => A5 = A ∧ ∃ d, s5 = .dat d ∧ f s = some d) ∧ (b = false → A4 = A ∧ f s = none)) :
    ∃ J : Nat → KS, J 0 A acc ∧ (∀ i s, xs[i]? = some s → LcStep K g tt te S vs (J i) (J (i + 1)) s) ∧ ∀ A2 acc2, J xs.length A2 acc2 → A2 = A ∧ acc2 = acc ++ (xs.filterMap f).map .dat := by
  refine ⟨fun i A2 acc2 => A2 = A ∧ i ≤ xs.length ∧ acc2 = acc ++ ((xs.take i).filterMap f).map .dat, ⟨rfl, Nat.zero_le _, by simp⟩, fun i s hi A2 acc2 ⟨e1, e0, e2⟩ => ?_, fun A2 acc2 ⟨e1, e0, e2⟩ => ⟨e1, by rw [e2, List.take_length]⟩⟩
  subst e1; subst e2
  have hlt := (List.getElem?_eq_some_iff.mp hi).1
  have ht : xs.take (i + 1) = xs.take i ++ [s] := by rw [List.take_add_one, hi]; rfl
  refine (hs i s hi).imp fun A3 S3 h3 => h3.imp fun A4 b ⟨h4, h5⟩ => ⟨fun hb => (h4 hb).imp fun A5 s5 ⟨e5, d, e6, e7⟩ => ?_, fun hb => ?_⟩
  · subst e5; subst e6
    refine ⟨?_, rfl, hlt, by rw [ht, List.filterMap_append, List.map_append, List.append_assoc]; simp [e7]⟩
    have h1 := List.length_filterMap_le f (xs.take i)
    have h2 : (xs.take i).length = i := by rw [List.length_take]; omega
    rw [List.length_append, List.length_map]
    omega
  · obtain ⟨e5, e6⟩ := h5 hb
    subst e5
    exact ⟨rfl, hlt, by rw [ht, List.filterMap_append]; simp [e6]⟩
theorem take_flat {α β : Type} (f : α → List β) (xs : List α) (i : Nat) : ((xs.take i).flatMap f).length ≤ (xs.flatMap f).length := by
  have h : xs.flatMap f = (xs.take i).flatMap f ++ (xs.drop i).flatMap f := by rw [← List.flatMap_append, List.take_append_drop]
  rw [h, List.length_append]
  omega
/-- two for, all steps leaving what is owned: ys: what the inner one walks; F: what it makes of all -/
theorem wp_lc2P (to : TOnly g vs) (to1 : TOnly g1 vs1) (h : IW K A wi S fun A1 (xs : List SV) => ∃ (Y : SV → List SV) (f : SV → SV → Option PyData), (∀ i (s : SV), xs[i]? = some s → ((xs.take i).flatMap fun s => (Y s).filterMap (f s)).length + (Y s).length ≤ sizeLine) ∧
    (∀ (i : Nat) (s : SV), xs[i]? = some s → GW K g s (wipeS S vs) A1 fun A3 S3 => WpT K A3 tt S3 fun A4 b => b = true ∧ IW K A4 wi1 S3 fun A5 ys => A5 = A1 ∧ ys = Y s ∧
      ∀ (j : Nat) (s1 : SV), (Y s)[j]? = some s1 → GW K g1 s1 (wipeS S3 vs1) A1 fun A6 S6 => WpT K A6 tt1 S6 fun A7 b => (b = true → Wp K A7 te S6 fun A8 s8 => A8 = A1 ∧ ∃ d, s8 = .dat d ∧ f s s1 = some d) ∧ (b = false → A7 = A1 ∧ f s s1 = none)) ∧
    ∀ p, k (A1.add p (.lst ((xs.flatMap fun s => (Y s).filterMap (f s)).map .dat))) (.ptr p)) : Wp K A (tLc2 wi g tt wi1 g1 tt1 te vs vs1) S k :=
  wp_lc2O to to1 <| IW.imp h fun A1 xs ⟨Y, f, hl, hs, hk⟩ => by
    refine ⟨fun i A2 acc => A2 = A1 ∧ i ≤ xs.length ∧ acc = ((xs.take i).flatMap fun s => (Y s).filterMap (f s)).map .dat, ⟨rfl, Nat.zero_le _, rfl⟩, fun i s hi A2 acc ⟨e1, e0, e2⟩ => ?_, fun A2 acc ⟨e1, e0, e2⟩ p => ?_⟩
    · subst e1; subst e2
      have hlt := (List.getElem?_eq_some_iff.mp hi).1
      have ht : xs.take (i + 1) = xs.take i ++ [s] := by rw [List.take_add_one, hi]; rfl
      refine (hs i s hi).imp fun A3 S3 h3 => h3.imp fun A4 b ⟨hb, h4⟩ => ⟨fun _ => h4.imp fun A5 ys ⟨e5, e6, h6⟩ => ?_, fun z => by rw [hb] at z; cases z⟩
      subst e5; subst e6
      obtain ⟨J, j0, js, je⟩ := lc_pure (acc := ((xs.take i).flatMap fun s => (Y s).filterMap (f s)).map .dat) (by rw [List.length_map]; exact hl i s hi) h6
      refine ⟨J, j0, js, fun A6 acc6 hj => ?_⟩
      obtain ⟨e7, e8⟩ := je A6 acc6 hj
      refine ⟨e7, hlt, ?_⟩
      rw [e8, ht, List.flatMap_append, List.map_append]
      simp
    · subst e1; subst e2
      rw [List.take_length]
      exact hk p
end
end DL

/-! The data layer: dict displays, chains, is None, named short rules; facts about data. -/
namespace DL
open PySem L2
section
variable {K : PySem.W.Frag} {A A' : Amb} {S S' : List SV} {ta tb tc te tl : TE} {t u tt tt1 : TT} {s s1 s2 : SV} {E : DE} {tu tw : TS} {g g1 : TG} {wi wi1 : TI} {vs vs1 : List Nat} {k : KA} {r r' : R2}
/-! ### displays of dicts -/
def WpP (K : PySem.W.Frag) : List (TE × TE) → Amb → List SV → (Amb → List (SV × SV) → Prop) → Prop
  | [], A, _, k => k A []
  | (tk, tv) :: r, A, S, k => Wp K A tk S fun A1 s1 => Wp K A1 tv S fun A2 s2 => WpP K r A2 S fun A3 ps => k A3 ((s1, s2) :: ps)
theorem wpp_run : ∀ {trs : List (TE × TE)} {A : Amb} {S : List SV} {k : Amb → List (SV × SV) → Prop} {R : List (Addr × Cell)} {F : Hp} {σ : St} {H : Hp} {Q : List (V × V) → Hp → Prop}, WpP K trs A S k → AtR K A R F H → SD K F σ S →
    (∀ A1 ps qs F1 H1, k A1 ps → Same F F1 → AtR K A1 R F1 H1 → Paired (fun (x : V × V) (y : SV × SV) => SR K F1 x.1 y.1 ∧ SR K F1 x.2 y.2) qs ps → Q qs H1) → tPairs trs σ H Q
  | [], A, S, k, R, F, σ, H, Q, h, a, sd, q => q A [] [] F H h (Same.refl F) a .nil
  | (tk, tv) :: r, A, S, k, R, F, σ, H, Q, h, a, sd, q => by
    refine h R F σ H _ a sd fun A1 s1 v F1 H1 h1 e1 a1 r1 => h1 R F1 σ H1 _ a1 (sd.mono e1) fun A2 s2 w F2 H2 h2 e2 a2 r2 => ?_
    exact wpp_run h2 a2 ((sd.mono e1).mono e2) fun A3 ps qs F3 H3 h3 e3 a3 r3 => q A3 _ _ F3 H3 h3 ((e1.trans e2).trans e3) a3 (.cons ⟨r1.mono (e2.trans e3), r2.mono e3⟩ r3)
def keyOf : SV → Option Key
  | .dat (.int i) => some (.inl i)
  | .dat (.str x) => some (.inr x)
  | _ => none
def keysOf : List (SV × SV) → Option (List (Key × SV))
  | [] => some []
  | (a, b) :: r => match keyOf a, keysOf r with
    | some x, some l => some ((x, b) :: l)
    | _, _ => none
theorem keyOf_v {F : Hp} {v : V} {s : SV} {x : Key} (h : keyOf s = some x) (r : SR K F v s) : v = kV x := by
  cases s with
  | dat d =>
    cases d with
    | int i => cases h; exact sr_int r
    | str z => cases h; exact sr_str r
    | none => cases h
    | bool b => cases h
    | list l => cases h
    | tuple l => cases h
    | dict l => cases h
  | no => cases h
  | ptr p => cases h
  | scr ns => cases h
theorem keysOf_v {F : Hp} : ∀ {ps : List (SV × SV)} {qs : List (V × V)} {kvs : List (Key × SV)}, keysOf ps = some kvs → Paired (fun (x : V × V) (y : SV × SV) => SR K F x.1 y.1 ∧ SR K F x.2 y.2) qs ps → ∃ vs : List (Key × V), qs = vs.map (fun kv => (kV kv.1, kv.2)) ∧ KVR K F vs kvs
  | [], _, kvs, h, .nil => by cases h; exact ⟨[], rfl, .nil⟩
  | (a, b) :: r, _, kvs, h, .cons (a := q) r1 t => by
    unfold keysOf at h
    cases e1 : keyOf a with
    | none => rw [e1] at h; cases h
    | some x =>
      cases e2 : keysOf r with
      | none => rw [e1, e2] at h; cases h
      | some l =>
        rw [e1, e2] at h
        cases h
        obtain ⟨vs, h1, h2⟩ := keysOf_v e2 t
        refine ⟨(x, q.2) :: vs, ?_, .cons ⟨rfl, r1.2⟩ h2⟩
        rw [h1, List.map_cons]
        have := keyOf_v e1 r1.1
        show (q.1, q.2) :: _ = (kV x, q.2) :: _
        rw [this]
def mergeS (kvs more : List (Key × SV)) : List (Key × SV) := more.foldl (fun acc kv => putS acc kv.1 kv.2) kvs
theorem kvr_merge {F : Hp} : ∀ {more : List (Key × V)} {moreS : List (Key × SV)} {vs : List (Key × V)} {kvs : List (Key × SV)}, KVR K F more moreS → KVR K F vs kvs → KVR K F (mergeK vs more) (mergeS kvs moreS)
  | _, _, _, _, .nil, h => h
  | a :: l, b :: m, vs, kvs, h0, h => by
    cases h0 with
    | cons r t =>
    have h1 : KVR K F (putK vs a.1 a.2) (putS kvs b.1 b.2) := by
      rw [← r.1]
      exact kvr_put h r.2
    show KVR K F (mergeK (putK vs a.1 a.2) l) (mergeS (putS kvs b.1 b.2) m)
    exact kvr_merge t h1
/-- {k: v, ..}: a new dict, one's own -/
theorem wp_disp {trs : List (TE × TE)} (h : WpP K trs A S fun A1 ps => ∃ kvs, keysOf ps = some kvs ∧ kvs.length ≤ 15 ∧ ∀ p, k (A1.add p (.dk (mergeS [] kvs))) (.ptr p)) : Wp K A (tDisp trs) S k := fun R F σ H Q a sd q p hp => by
  have a1 := (AtR.new (o := .dK []) (c := .dk []) a hp ⟨[], upd_same, .nil⟩).back
  refine wpp_run h a1 sd fun A1 ps qs F1 H1 ⟨kvs, h1, h2, h3⟩ e1 a2 r => ?_
  obtain ⟨_, _, us, f3, f4⟩ := At.cell a2 p (.dk []) (List.mem_append_right _ List.mem_cons_self)
  have f4' : KVR K F1 us [] := f4
  cases f4'
  obtain ⟨vs, g1, g2⟩ := keysOf_v h1 r
  refine ⟨f3, vs, g1, by rw [g2.length]; exact h2, ?_⟩
  have a3 := (a2.front).put (o := .dK (mergeK [] vs)) (c' := .dk (mergeS [] kvs)) .head ⟨_, upd_same, kvr_merge g2 .nil⟩
  exact q _ _ _ _ _ (h3 p) e1 a3 rfl

/-! ### chains, is None -/
theorem wp_chain (h : Wp K A ta S fun A1 s1 => Wp K A1 tb S fun A2 s2 => RW K r s1 s2 A2 fun A3 s3 => ∃ b, s3 = .dat (.bool b) ∧ (b = true → Wp K A3 tc S fun A4 s4 => RW K r' s2 s4 A4 k) ∧ (b = false → k A3 (.dat (.bool false)))) : Wp K A (tChain r r' ta tb tc) S k := fun R F σ H Q a sd q =>
  h R F σ H _ a sd fun A1 s1 v F1 H1 h1 e1 a1 r1 => h1 R F1 σ H1 _ a1 (sd.mono e1) fun A2 s2 w F2 H2 h2 e2 a2 r2 => h2 R F2 H2 v w _ a2 (r1.mono e2) r2 fun A3 s3 u F3 H3 ⟨b, hb, h3, h4⟩ e3 a3 r3 => by
    subst hb
    refine ⟨b, sr_bl r3, ?_⟩
    cases b with
    | true =>
      show tc σ H3 _
      exact h3 rfl R F3 σ H3 _ a3 (((sd.mono e1).mono e2).mono e3) fun A4 s4 x F4 H4 h5 e4 a4 r4 => h5 R F4 H4 w x Q a4 (r2.mono (e3.trans e4)) r4 (q.mono (((e1.trans e2).trans e3).trans e4))
    | false => exact q _ _ _ _ _ (h4 rfl) ((e1.trans e2).trans e3) a3 (.bl false)
def rIsNo : R2 := fun x y H Q => y = .non ∧ Q (.bl (decide (x = .non))) H
def rNotNo : R2 := fun x y H Q => y = .non ∧ Q (.bl (!decide (x = .non))) H
theorem op_isN1 {X : Cx} : OpR X (compareOp .Is) rIsNo := op_isN
theorem op_notN1 {X : Cx} : OpR X (compareOp .IsNot) rNotNo := op_notN
def isNone : PyData → Bool
  | .none => true
  | _ => false
theorem dt_isN {F : Hp} {v : V} {d : PyData} (h : Dt K F v d) : decide (v = .non) = isNone d := by
  cases h <;> rfl
theorem rw_isN {d : PyData} (h : k A (.dat (.bool (isNone d)))) : RW K rIsNo (.dat d) (.dat .none) A k := fun R F H v w Q a r1 r2 q =>
  ⟨sr_non r2, by rw [dt_isN r1]; exact q A _ _ F H h (Same.refl F) a (.bl _)⟩
theorem rw_notN {d : PyData} (h : k A (.dat (.bool (!isNone d)))) : RW K rNotNo (.dat d) (.dat .none) A k := fun R F H v w Q a r1 r2 q =>
  ⟨sr_non r2, by rw [dt_isN r1]; exact q A _ _ F H h (Same.refl F) a (.bl _)⟩
end

theorem op_eqA {X : Cx} (hu : X.A.units + 65 < cLine) : OpR X (compareOp .Eq) (rEqD X.K) := op_eqD (by omega)
theorem op_neA {X : Cx} (hu : X.A.units + 65 < cLine) : OpR X (compareOp .NotEq) (rNeD X.K) := op_neD (by omega)
theorem sz64 {n : Nat} (h : Nat.ble n 64 = true) : n ≤ sizeLine := Nat.le_trans (Nat.le_of_ble_eq_true h) (by decide)
theorem cxK {CX : CXT} {P : Program} {w : World} {K : PySem.W.Frag} {mg : Str → Option Value} {base : Heap} {N : List Str} {qual : Str} {scope : Scope} {f : Addr} {cd : Value} {A : Around} {outer : List Env} {s : Shared} {H : Hp} {E : XK} : (cxOf CX P w K mg base N qual scope f cd A outer s H E).nox.K = K := rfl
/-! ### facts about data -/
mutual
/-- no truths, no dicts within -/
def plainD : PyData → Bool
  | .none | .int _ => true
  | .str z => PyData.strOk z
  | .bool _ | .dict _ => false
  | .list xs | .tuple xs => plainA xs
def plainA : List PyData → Bool
  | [] => true
  | x :: xs => plainD x && plainA xs
end
mutual
theorem eqv_plain : ∀ (x y : PyData), plainD x = true → plainD y = true → (PyData.eqv x y = true ↔ x = y)
  | .none, y, _, hy => by cases y <;> simp [PyData.eqv]
  | .int i, y, _, hy => by cases y <;> simp_all [PyData.eqv, plainD]
  | .str z, y, _, hy => by cases y <;> simp_all [PyData.eqv, plainD]
  | .bool b, y, hx, _ => by simp [plainD] at hx
  | .dict b, y, hx, _ => by simp [plainD] at hx
  | .list xs, y, hx, hy => by
    cases y with
    | list ys =>
      have h := eqvAll_plain xs ys (by simpa [plainD] using hx) (by simpa [plainD] using hy)
      simp [PyData.eqv, h]
    | bool b => simp [plainD] at hy
    | dict b => simp [plainD] at hy
    | _ => simp [PyData.eqv]
  | .tuple xs, y, hx, hy => by
    cases y with
    | tuple ys =>
      have h := eqvAll_plain xs ys (by simpa [plainD] using hx) (by simpa [plainD] using hy)
      simp [PyData.eqv, h]
    | bool b => simp [plainD] at hy
    | dict b => simp [plainD] at hy
    | _ => simp [PyData.eqv]
theorem eqvAll_plain : ∀ (xs ys : List PyData), plainA xs = true → plainA ys = true → (PyData.eqvAll xs ys = true ↔ xs = ys)
  | [], [], _, _ => by simp [PyData.eqvAll]
  | [], _ :: _, _, _ => by simp [PyData.eqvAll]
  | _ :: _, [], _, _ => by simp [PyData.eqvAll]
  | x :: xs, y :: ys, hx, hy => by
    simp only [plainA, Bool.and_eq_true] at hx hy
    have h1 := eqv_plain x y hx.1 hy.1
    have h2 := eqvAll_plain xs ys hx.2 hy.2
    simp [PyData.eqvAll, h1, h2]
end
theorem plainA_map {α : Type} {f : α → PyData} (h : ∀ a, plainD (f a) = true) : ∀ xs : List α, plainA (xs.map f) = true
  | [] => by simp [plainA]
  | x :: xs => by simp [plainA, h x, plainA_map h xs]
theorem plainA_mem : ∀ {xs : List PyData}, plainA xs = true ↔ ∀ x ∈ xs, plainD x = true
  | [] => by simp [plainA]
  | x :: xs => by simp [plainA, plainA_mem (xs := xs)]
/-- eqv of an encoding is equality -/
theorem eqv_enc {α : Type} [DecidableEq α] {f : α → PyData} (hp : ∀ a, plainD (f a) = true) (hi : ∀ a b, f a = f b → a = b) (a b : α) : PyData.eqv (f a) (f b) = decide (a = b) := by
  by_cases e : a = b
  · subst e
    rw [decide_eq_true rfl]
    exact (eqv_plain _ _ (hp a) (hp a)).mpr rfl
  · rw [decide_eq_false e]
    cases h : PyData.eqv (f a) (f b) with
    | false => rfl
    | true => exact absurd (hi a b ((eqv_plain _ _ (hp a) (hp b)).mp h)) e
theorem any_enc {α : Type} [DecidableEq α] {f : α → PyData} (hp : ∀ a, plainD (f a) = true) (hi : ∀ a b, f a = f b → a = b) (xs : List α) (b : α) : (xs.map f).any (fun z => PyData.eqv z (f b)) = decide (b ∈ xs) := by
  induction xs with
  | nil => simp
  | cons x xs ih =>
    rw [List.map_cons, List.any_cons, ih, eqv_enc hp hi]
    by_cases e : x = b
    · simp [e]
    · have e' : ¬ b = x := fun q => e q.symm
      simp [e, e']
theorem lay_plain : ∀ (x : PyData), plainD x = true → x.canLay0 = true := by
  intro x
  exact PyData.rec (motive_1 := fun x => plainD x = true → x.canLay0 = true) (motive_2 := fun xs => plainA xs = true → PyData.canLayAll0 xs = true) (motive_3 := fun _ => True) (motive_4 := fun _ => True)
    (fun _ => by simp [PyData.canLay0]) (fun b h => by simp [plainD] at h) (fun i _ => by simp [PyData.canLay0]) (fun z h => by simp only [plainD] at h; simpa [PyData.canLay0] using h) (fun xs ih h => by simp only [plainD] at h; simpa [PyData.canLay0] using ih h)
    (fun xs ih h => by simp only [plainD] at h; simpa [PyData.canLay0] using ih h) (fun _ _ h => by simp [plainD] at h) (fun _ => by simp [PyData.canLayAll0]) (fun y ys i1 i2 h => by simp only [plainA, Bool.and_eq_true] at h; simp [PyData.canLayAll0, i1 h.1, i2 h.2])
    trivial (fun _ _ _ _ => trivial) (fun _ _ _ _ => trivial) x
theorem shaped_plain {x : PyData} (h : plainD x = true) (hd : x.depth ≤ 64) : SeqAt.shaped x = true := by
  unfold SeqAt.shaped
  rw [lay_plain x h, decide_eq_true hd]
  rfl
theorem depthAll_le {n : Nat} : ∀ {xs : List PyData}, (∀ x ∈ xs, x.depth ≤ n) → PyData.depthAll xs ≤ n
  | [], _ => by simp [PyData.depthAll]
  | x :: xs, h => by
    have h1 := h x List.mem_cons_self
    have h2 := depthAll_le (xs := xs) fun y hy => h y (List.mem_cons_of_mem _ hy)
    simp only [PyData.depthAll]
    omega
/-! ### sorted lists of data -/
theorem dataLe_total : PySem.W.TotalLe (PySem.W.dataLe false (id : PyData → PyData)) := PySem.W.sortLe_total _ false _
theorem dsort_perm (ds : List PyData) : (dsort ds).Perm ds := List.mergeSort_perm _ _
theorem dsort_pair (ds : List PyData) : (dsort ds).Pairwise fun a b => PySem.W.dataLe false id a b = true := PySem.W.sort_pairwise dataLe_total ds
/-- two alike ones, neither less than the other, are one -/
theorem not_lt {x y : PyData} (ha : PySem.W.alike x y = true) (h1 : PySem.W.dataLt x y = false) (h2 : PySem.W.dataLt y x = false) : PyData.eqv x y = true := by
  have e : PySem.W.keyToks x = PySem.W.keyToks y := (PyProof.Rows.listOrd PyProof.Rows.itemOrd).total _ _ h1 h2
  cases h : PyData.eqv x y with
  | true => rfl
  | false =>
    have h3 := (PySem.W.toks_eqv x y ha).2 h [] [.inl 0]
    have h4 : PyProof.Rows.lexLt PyProof.Rows.itemOrd (PySem.W.keyToks x) (PySem.W.keyToks y) = false := h1
    rw [← e, PySem.W.lex_pre] at h3
    rw [← e] at h4
    rw [h4] at h3
    have h5 : PyProof.Rows.lexLt PyProof.Rows.itemOrd [] [.inl 0] = true := rfl
    exact h3.symm.trans h5
theorem perm_sorted {α : Type} {le : α → α → Prop} : ∀ {l m : List α}, (∀ a ∈ l, ∀ b ∈ l, le a b → le b a → a = b) → l.Perm m → l.Pairwise le → m.Pairwise le → l = m
  | [], m, _, p, _, _ => p.nil_eq
  | a :: l, [], _, p, _, _ => absurd p.symm.nil_eq (by simp)
  | a :: l, b :: m, anti, p, h1, h2 => by
    have e : a = b := by
      have ha : a ∈ b :: m := p.mem_iff.mp List.mem_cons_self
      have hb : b ∈ a :: l := p.mem_iff.mpr List.mem_cons_self
      rcases List.mem_cons.mp ha with ha | ha
      · exact ha
      rcases List.mem_cons.mp hb with hb | hb
      · exact hb.symm
      exact anti a List.mem_cons_self b (List.mem_cons_of_mem _ hb) ((List.pairwise_cons.mp h1).1 b hb) ((List.pairwise_cons.mp h2).1 a ha)
    subst e
    rw [perm_sorted (fun x hx y hy => anti x (List.mem_cons_of_mem _ hx) y (List.mem_cons_of_mem _ hy)) ((List.perm_cons a).mp p) (List.pairwise_cons.mp h1).2 (List.pairwise_cons.mp h2).2]
/-- two lists of the same things are sorted to one -/
theorem dsort_eq {l m : List PyData} (p : l.Perm m) (hal : PySem.W.AllAlike l) (hp : plainA l = true) : dsort l = dsort m := by
  refine perm_sorted (le := fun a b => PySem.W.dataLe false id a b = true) (fun a ha b hb h1 h2 => ?_) (((dsort_perm l).trans p).trans (dsort_perm m).symm) (dsort_pair l) (dsort_pair m)
  have ha' := (dsort_perm l).mem_iff.mp ha
  have hb' := (dsort_perm l).mem_iff.mp hb
  have k1 : (!PySem.W.dataLt b a) = true := h1
  have k2 : (!PySem.W.dataLt a b) = true := h2
  rw [Bool.not_eq_true'] at k1 k2
  exact (eqv_plain a b (plainA_mem.mp hp a ha') (plainA_mem.mp hp b hb')).mp (not_lt (hal a ha' b hb') k2 k1)
end DL

/-! The data layer: calls with keywords, all parameters given. -/
namespace DL
open PySem L2
/-- the parameters' order: from the values by place (inl), by name (inr) -/
def kperm {α : Type} (z : α) (perm : List (Sum Nat Nat)) (us ws : List α) : List α := perm.map fun
  | .inl j => us.getD j z
  | .inr j => ws.getD j z
structure KB (K : PySem.W.Frag) (fd : FuncData) (ps : List Str) (n : Nat) (ks : List Str) (perm : List (Sum Nat Nat)) : Prop where
  to : ∀ (s : Shared) (us ws : List Value), K.In s.heap → us.length = n → ws.length = ks.length → BindsTo s fd ⟨us, ks.zip ws⟩ (ps.zip (kperm .none perm us ws))
  len : perm.length = ps.length
theorem kb_of {K : PySem.W.Frag} {x qual : Str} {st : Stmt} {f : Addr} {fd : FuncData} {ps ks : List Str} {n : Nat} {perm : List (Sum Nat Nat)} (F : Fun K x qual st f fd) (hl : perm.length = ps.length)
    (h : ∀ (kV doc pm : Value) (an : Option Addr) (cdv ct : Value) (us ws : List Value), us.length = n → ws.length = ks.length → bindArgs (PySem.W.fnOf x qual (defArgs st) (defBody st) (defScope st) .none kV doc pm an cdv ct) ⟨us, ks.zip ws⟩ = pure (ps.zip (kperm .none perm us ws))) : KB K fd ps n ks perm := by
  obtain ⟨oc, od, kV, doc, pm, an, cdv, ct, osl, rfl, lk, hcd⟩ := F.ex
  exact ⟨fun s us ws _ h1 h2 => .of_eq (h kV doc pm an cdv ct us ws h1 h2), hl⟩
theorem vals_getD {vs : List V} {us : List Value} (r : Vals vs us) (j : Nat) : RelV (vs.getD j .non) (us.getD j .none) := by
  induction r generalizing j with
  | nil => simp; rfl
  | cons h t ih =>
    cases j with
    | zero => simpa using h
    | succ j => simpa using ih j
theorem vals_perm {vs ws : List V} {us zs : List Value} (r : Vals vs us) (r' : Vals ws zs) : ∀ perm : List (Sum Nat Nat), Vals (kperm .non perm vs ws) (kperm .none perm us zs)
  | [] => .nil
  | .inl j :: p => .cons (vals_getD r j) (vals_perm r r' p)
  | .inr j :: p => .cons (vals_getD r' j) (vals_perm r r' p)
theorem srs_getD {K : PySem.W.Frag} {F : Hp} {vs : List V} {ss : List SV} (r : SRs K F vs ss) (j : Nat) : SR K F (vs.getD j .non) (ss.getD j (.dat .none)) := by
  induction r generalizing j with
  | nil => simp; exact .non
  | cons h t ih =>
    cases j with
    | zero => simpa using h
    | succ j => simpa using ih j
theorem srs_perm {K : PySem.W.Frag} {F : Hp} {vs ws : List V} {ss ts : List SV} (r : SRs K F vs ss) (r' : SRs K F ws ts) : ∀ perm : List (Sum Nat Nat), SRs K F (kperm .non perm vs ws) (kperm (.dat .none) perm ss ts)
  | [] => .nil
  | .inl j :: p => .cons (srs_getD r j) (srs_perm r r' p)
  | .inr j :: p => .cons (srs_getD r' j) (srs_perm r r' p)
def tCallP (n m : Nat) (sp : Sp) (perm : List (Sum Nat Nat)) (E : XK) (t tk : TA) : TE := fun σ H Q => t σ H fun vs H1 => tk σ H1 fun zs H2 => vs.length = n ∧ zs.length = m ∧ sp (kperm .non perm vs zs) H2 Q E
section
variable {X : Cx} {CX : CXT} {k n : Nat} {f : Addr} {fd : FuncData} {ps ks : List Str} {sp : Sp} {E : XK} {x : Str} {p pos : Pos} {e : Expr} {es : List Expr} {kws : List Keyword} {t tk : TA} {perm : List (Sum Nat Nat)}
theorem run_kp {pins : List (Addr × Obj)} {σ : St} {H : Hp} {s : Shared} {Q : VK} {us ws : List Value} {vs zs : List V} (F : FnOk X.prog X.w X.K X.mg X.base CX k f fd ps sp) (hr : Room k X.A) (hb : KB X.K fd ps n ks perm) (hx : Passes CX X E)
    (I : Inv X pins σ H s) (r : Vals vs us) (rz : Vals zs ws) (h1 : vs.length = n) (h2 : zs.length = ks.length) (h : sp (kperm .non perm vs zs) H Q E) : wpAny (model X.prog X.w) X.A (call (.ref f) us (ks.zip ws)) (EP X pins σ Q) X.xe s := by
  have b := hb.to s us ws I.kIn (r.length.symm.trans h1) (rz.length.symm.trans h2)
  refine wpAny_call (codeAny_mono (F.run X.A X.stack s H ⟨us, ks.zip ws⟩ _ _ Q E hr I.env0 b (vals_perm r rz perm) h) fun r s' hq => ?_)
  cases r with
  | error e => exact hx pins σ H s e s' I hq
  | ok fl =>
    cases fl with
    | ret u => exact I.after hq
    | next => exact False.elim hq
    | brk => exact False.elim hq
    | cont => exact False.elim hq
theorem pe_callP (F : FnOk X.prog X.w X.K X.mg X.base CX k f fd ps sp) (hr : Room k X.A) (hg : Gl X x) (hm : X.mg x = some (.ref f)) (hk : PySem.W.keepIn X.K (.ref f) = true) (hb : KB X.K fd ps n ks perm) (hx : Passes CX X E)
    (ha : PA X (e :: es) t) (hkw : PK X kws tk) (hall : (backToKw pos (keywordEach kws X.env)).all (·.1.isSome) = true := by rfl) (hks : (backToKw pos (keywordEach kws X.env)).filterMap (·.1) = ks := by rfl)
    (hdb : (x == ("__debug__" : Str)) = false := by decide) (he : starEach (e :: es) X.env = (false, eval e X.env) :: starEach es X.env := by rfl)
    (hpl : ((backTo pos (starEach (e :: es) X.env)).any (·.1) || (backToKw pos (keywordEach kws X.env)).any (·.1.isNone)) = false := by rfl) :
    PE X (.Call (.Name x p) (e :: es) kws pos) (tCallP n ks.length sp perm E t tk) := by
  refine ⟨fun pins s σ H Q I h => wpAny_Call_Name_kw (ld_glob I hg hm ?_ hdb)⟩
  refine PySem.W.callWith_KW (h₀ := X.base) I.ok.mod.kin hk hall (thn (ha.run pos pins s σ H _ I h) fun us s1 ⟨vs, H1, I1, r, q⟩ => thn (hkw.run pos pins s1 σ H1 _ I1 q) fun ws s2 ⟨zs, H2, I2, rz, q2⟩ => ⟨I2.kIn, ?_⟩) hpl he
  rw [hks]
  exact run_kp F hr hb hx I2 r rz q2.1 q2.2.1 q2.2.2
theorem pe_callP0 (F : FnOk X.prog X.w X.K X.mg X.base CX k f fd ps sp) (hr : Room k X.A) (hg : Gl X x) (hm : X.mg x = some (.ref f)) (hk : PySem.W.keepIn X.K (.ref f) = true) (hb : KB X.K fd ps 0 ks perm) (hx : Passes CX X E)
    (hkw : PK X kws tk) (hall : (backToKw pos (keywordEach kws X.env)).all (·.1.isSome) = true := by rfl) (hks : (backToKw pos (keywordEach kws X.env)).filterMap (·.1) = ks := by rfl)
    (hdb : (x == ("__debug__" : Str)) = false := by decide)
    (hpl : ((backTo pos (starEach [] X.env)).any (·.1) || (backToKw pos (keywordEach kws X.env)).any (·.1.isNone)) = false := by rfl) :
    PE X (.Call (.Name x p) [] kws pos) (tCallP 0 ks.length sp perm E tNil tk) := by
  refine ⟨fun pins s σ H Q I h => wpAny_Call_Name_kw (ld_glob I hg hm ?_ hdb)⟩
  refine PySem.W.callWith_KW0 (h₀ := X.base) I.ok.mod.kin hk hall (thn (hkw.run pos pins s σ H _ I h) fun ws s2 ⟨zs, H2, I2, rz, q2⟩ => ⟨I2.kIn, ?_⟩) hpl
  rw [hks]
  exact run_kp (us := []) (vs := []) F hr hb hx I2 .nil rz q2.1 q2.2.1 q2.2.2
end
theorem wp_callP {K : PySem.W.Frag} {A : Amb} {S : List SV} {k : KA} {n m : Nat} {W : List SV → Amb → KA → Prop} {EX : XK} {ta tk : TA} {perm : List (Sum Nat Nat)}
    (h : WpA K A ta S fun A1 ss => WpA K A1 tk S fun A2 ts => ss.length = n ∧ ts.length = m ∧ W (kperm (.dat .none) perm ss ts) A2 k) : Wp K A (tCallP n m (spW K W) perm EX ta tk) S k := fun R F σ H Q a sd q =>
  h R F σ H _ a sd fun A1 ss vs F1 H1 h1 e1 a1 r1 => h1 R F1 σ H1 _ a1 (sd.mono e1) fun A2 ts ws F2 H2 ⟨h2, h3, h4⟩ e2 a2 r2 => ⟨by rw [r1.length]; exact h2, by rw [r2.length]; exact h3, A2, R, F2, _, k, a2, srs_perm (SRs.mono e2 r1) r2 perm, h4, q.mono (e1.trans e2)⟩
end DL

/-! The data layer: comprehensions and loops over lists of encoded things. -/
namespace DL
open PySem L2
section
variable {K : PySem.W.Frag} {A A' : Amb} {S S' : List SV} {ta tb tc te tl : TE} {t u tt tt1 : TT} {s s1 s2 : SV} {E : DE} {tu tw : TS} {g g1 : TG} {wi wi1 : TI} {vs vs1 : List Nat} {k : KA} {α β : Type}
theorem get_enc {enc : α → PyData} {xs : List α} {i : Nat} {s : SV} (h : ((xs.map enc).map SV.dat)[i]? = some s) : ∃ x, xs[i]? = some x ∧ s = .dat (enc x) := by
  rw [List.getElem?_map, List.getElem?_map] at h
  cases e : xs[i]? with
  | none => rw [e] at h; cases h
  | some x => rw [e] at h; exact ⟨x, rfl, (Option.some.inj h).symm⟩
theorem filter_take (p : α → Bool) (f : α → β) {xs : List α} {i : Nat} {x : α} (h : xs[i]? = some x) : ((xs.take (i + 1)).filter p).map f = ((xs.take i).filter p).map f ++ if p x = true then [f x] else [] := by
  rw [List.take_add_one, h, List.filter_append, List.map_append]
  congr 1
  by_cases hp : p x = true
  · simp [hp]
  · simp [hp]
/-- a turn's step, told by the item -/
def LcItem (K : PySem.W.Frag) (g : TG) (tt : TT) (te : TE) (S : List SV) (vs : List Nat) (A : Amb) (s : SV) (b : Bool) (d : PyData) : Prop :=
  GW K g s (wipeS S vs) A fun A3 S3 => WpT K A3 tt S3 fun A4 b' => b' = b ∧ (b = true → Wp K A4 te S3 fun A5 s5 => A5 = A ∧ s5 = .dat d) ∧ (b = false → A4 = A)
theorem wp_lcMO {enc : α → PyData} {xs : List α} (to : TOnly g vs) (p : α → Bool) (f : α → PyData) (hl : xs.length ≤ sizeLine)
    (h : IW K A wi S fun A1 ss => ss = (xs.map enc).map .dat ∧ (∀ x ∈ xs, LcItem K g tt te S vs A1 (.dat (enc x)) (p x) (f x)) ∧ ∀ q, k (A1.add q (.lst (((xs.filter p).map f).map .dat))) (.ptr q)) : Wp K A (tLc wi g tt te vs) S k :=
  wp_lcO to <| IW.imp h fun A1 ss ⟨e, hs, hk⟩ => by
    subst e
    refine ⟨fun i A2 acc => A2 = A1 ∧ i ≤ xs.length ∧ acc = (((xs.take i).filter p).map f).map .dat, ⟨rfl, Nat.zero_le _, by simp⟩, fun i s hi A2 acc ⟨e1, e0, e2⟩ => ?_, fun A2 acc ⟨e1, e0, e2⟩ q => ?_⟩
    · subst e1; subst e2
      obtain ⟨x, hx, rfl⟩ := get_enc hi
      have hlt := (List.getElem?_eq_some_iff.mp hx).1
      refine (hs x (List.mem_of_getElem? hx)).imp fun A3 S3 h3 => h3.imp fun A4 b ⟨e5, h5, h6⟩ => ⟨fun hb => ?_, fun hb => ?_⟩
      · rw [e5] at hb
        refine (h5 hb).imp fun A5 s5 ⟨e6, e7⟩ => ?_
        subst e6; subst e7
        refine ⟨?_, rfl, hlt, by rw [filter_take p f hx, if_pos hb, List.map_append]; rfl⟩
        have h1 := List.length_filter_le p (xs.take i)
        have h2 : (xs.take i).length = i := by rw [List.length_take]; omega
        rw [List.length_map, List.length_map]
        omega
      · rw [e5] at hb
        have := h6 hb
        subst this
        exact ⟨rfl, hlt, by rw [filter_take p f hx, if_neg (by rw [hb]; exact Bool.false_ne_true), List.append_nil]⟩
    · subst e1; subst e2
      rw [List.length_map, List.length_map, List.take_length]
      exact hk q
theorem wp_lcM {enc : α → PyData} {xs : List α} (to : TOnly g vs) (p : α → Bool) (f : α → PyData) (hl : xs.length ≤ sizeLine)
    (h : IW K A wi S fun A1 ss => ss = (xs.map enc).map .dat ∧ (∀ x ∈ xs, LcItem K g tt te S vs A1 (.dat (enc x)) (p x) (f x)) ∧ k A1 (.dat (.list ((xs.filter p).map f)))) : Wp K A (tLc wi g tt te vs) S k :=
  wp_frz <| wp_lcMO to p f hl <| IW.imp h fun A1 ss ⟨e, hs, hk⟩ => ⟨e, hs, fun q => ⟨q, _, A1.cells, rfl, .head, hk⟩⟩
/-- no test -/
theorem lc_item {d : PyData} (h : GW K g s (wipeS S vs) A fun A3 S3 => Wp K A3 te S3 fun A5 s5 => A5 = A ∧ s5 = .dat d) : LcItem K g tYes te S vs A s true d :=
  h.imp fun A3 S3 h3 => wpt_yes ⟨rfl, fun _ => h3, fun z => by cases z⟩
theorem filter_true (xs : List α) : xs.filter (fun _ => true) = xs := List.filter_eq_self.mpr fun _ _ => rfl
theorem wp_lcA {enc : α → PyData} {xs : List α} (to : TOnly g vs) (f : α → PyData) (hl : xs.length ≤ sizeLine)
    (h : IW K A wi S fun A1 ss => ss = (xs.map enc).map .dat ∧ (∀ x ∈ xs, GW K g (.dat (enc x)) (wipeS S vs) A1 fun A3 S3 => Wp K A3 te S3 fun A5 s5 => A5 = A1 ∧ s5 = .dat (f x)) ∧ k A1 (.dat (.list (xs.map f)))) : Wp K A (tLc wi g tYes te vs) S k :=
  wp_lcM (enc := enc) (xs := xs) to (fun _ => true) f hl <| IW.imp h fun A1 ss ⟨e, hs, hk⟩ => ⟨e, fun x hx => lc_item (hs x hx), by rw [filter_true]; exact hk⟩
theorem irange_enc (lo : Int) (n : Nat) : irange lo n = ((List.range n).map fun (i : Nat) => PyData.int (lo + i)).map .dat := by
  unfold irange
  rw [List.map_map]
  rfl
/-- two for -/
theorem wp_lc2M {enc : α → PyData} {enc1 : β → PyData} {xs : List α} {ys : α → List β} (to : TOnly g vs) (to1 : TOnly g1 vs1) (p : α → β → Bool) (f : α → β → PyData) {n : Nat} (hn : ∀ x ∈ xs, (ys x).length ≤ n) (hl : xs.length * n ≤ sizeLine)
    (h : IW K A wi S fun A1 ss => ss = (xs.map enc).map .dat ∧ (∀ x ∈ xs, GW K g (.dat (enc x)) (wipeS S vs) A1 fun A3 S3 => WpT K A3 tt S3 fun A4 b => b = true ∧ IW K A4 wi1 S3 fun A5 ts => A5 = A1 ∧ ts = ((ys x).map enc1).map .dat ∧
      ∀ y ∈ ys x, LcItem K g1 tt1 te S3 vs1 A1 (.dat (enc1 y)) (p x y) (f x y)) ∧ ∀ q, k (A1.add q (.lst ((xs.flatMap fun x => ((ys x).filter (p x)).map (f x)).map .dat))) (.ptr q)) : Wp K A (tLc2 wi g tt wi1 g1 tt1 te vs vs1) S k :=
  wp_lc2O to to1 <| IW.imp h fun A1 ss ⟨e, hs, hk⟩ => by
    subst e
    have bound : ∀ i, i ≤ xs.length → ((xs.take i).flatMap fun x => ((ys x).filter (p x)).map (f x)).length ≤ i * n := by
      intro i hi
      have aux : ∀ l : List α, (∀ x ∈ l, x ∈ xs) → (l.flatMap fun x => ((ys x).filter (p x)).map (f x)).length ≤ l.length * n := by
        intro l
        induction l with
        | nil => intro _; simp
        | cons x l ih =>
          intro hm
          rw [List.flatMap_cons, List.length_append, List.length_map, List.length_cons, Nat.succ_mul]
          have h1 := List.length_filter_le (p x) (ys x)
          have h2 := hn x (hm x List.mem_cons_self)
          have h3 := ih fun y hy => hm y (List.mem_cons_of_mem _ hy)
          omega
      have h1 := aux (xs.take i) fun x hx => List.mem_of_mem_take hx
      have h2 : (xs.take i).length = i := by rw [List.length_take]; omega
      rw [h2] at h1
      exact h1
    refine ⟨fun i A2 acc => A2 = A1 ∧ i ≤ xs.length ∧ acc = ((xs.take i).flatMap fun x => ((ys x).filter (p x)).map (f x)).map .dat, ⟨rfl, Nat.zero_le _, by simp⟩, fun i s hi A2 acc ⟨e1, e0, e2⟩ => ?_, fun A2 acc ⟨e1, e0, e2⟩ q => ?_⟩
    · subst e1; subst e2
      obtain ⟨x, hx, rfl⟩ := get_enc hi
      have hm := List.mem_of_getElem? hx
      have hlt := (List.getElem?_eq_some_iff.mp hx).1
      refine (hs x hm).imp fun A3 S3 h3 => h3.imp fun A4 b ⟨hb, h4⟩ => ⟨fun _ => IW.imp h4 fun A5 ts ⟨e5, e6, h6⟩ => ?_, fun z => by rw [hb] at z; cases z⟩
      subst e5; subst e6
      have ht : ((xs.take (i + 1)).flatMap fun x => ((ys x).filter (p x)).map (f x)) = ((xs.take i).flatMap fun x => ((ys x).filter (p x)).map (f x)) ++ ((ys x).filter (p x)).map (f x) := by
        rw [List.take_add_one, hx, List.flatMap_append]
        simp
      refine ⟨fun j A7 acc7 => A7 = A5 ∧ j ≤ (ys x).length ∧ acc7 = (((xs.take i).flatMap fun x => ((ys x).filter (p x)).map (f x)) ++ (((ys x).take j).filter (p x)).map (f x)).map .dat, ⟨rfl, Nat.zero_le _, by simp⟩, fun j s1 hj A7 acc7 ⟨e7, e8, e9⟩ => ?_, fun A7 acc7 ⟨e7, e8, e9⟩ => ?_⟩
      · subst e7; subst e9
        obtain ⟨y, hy, rfl⟩ := get_enc hj
        have hjl := (List.getElem?_eq_some_iff.mp hy).1
        refine (h6 y (List.mem_of_getElem? hy)).imp fun A8 S8 h8 => h8.imp fun A9 b ⟨e10, h9, h10⟩ => ⟨fun hb => ?_, fun hb => ?_⟩
        · rw [e10] at hb
          refine (h9 hb).imp fun A10 s10 ⟨e11, e12⟩ => ?_
          subst e11; subst e12
          refine ⟨?_, rfl, hjl, by rw [filter_take (p x) (f x) hy, if_pos hb, ← List.append_assoc, dats_app]⟩
          have h1 := List.length_filter_le (p x) ((ys x).take j)
          have h2 : ((ys x).take j).length = j := by rw [List.length_take]; omega
          have h3 := hn x hm
          have h4 := bound i e0
          have h5 : (i + 1) * n ≤ xs.length * n := Nat.mul_le_mul_right n hlt
          rw [Nat.succ_mul] at h5
          rw [List.length_map, List.length_append, List.length_map]
          omega
        · rw [e10] at hb
          have := h10 hb
          subst this
          exact ⟨rfl, hjl, by rw [filter_take (p x) (f x) hy, if_neg (by rw [hb]; exact Bool.false_ne_true), List.append_nil]⟩
      · subst e7; subst e9
        rw [List.length_map, List.length_map, List.take_length]
        exact ⟨rfl, hlt, by rw [ht]⟩
    · subst e1; subst e2
      rw [List.length_map, List.length_map, List.take_length]
      exact hk q
/-- a loop over encoded things -/
theorem go_forM {enc : α → PyData} {xs : List α} (h : IW K A wi S fun A1 ss => ss = (xs.map enc).map .dat ∧ ∃ J : Nat → KS, J 0 A1 S ∧
    (∀ i x A2 S2, xs[i]? = some x → J i A2 S2 → GW K g (.dat (enc x)) S2 A2 fun A3 S3 => Go K A3 tu S3 (E.loop (J (i + 1)))) ∧ ∀ A2 S2, J xs.length A2 S2 → E.nx A2 S2) : Go K A (tFor wi g tu) S E :=
  go_for <| IW.imp h fun A1 ss ⟨e, J, j0, js, je⟩ => by
    subst e
    refine ⟨J, j0, fun i s A2 S2 hi hj => ?_, fun A2 S2 hj => je A2 S2 (by simpa using hj)⟩
    obtain ⟨x, hx, rfl⟩ := get_enc hi
    exact js i x A2 S2 hx hj
theorem go_forR {n : Nat} (h : IW K A wi S fun A1 ss => ss = irange 0 n ∧ ∃ J : Nat → KS, J 0 A1 S ∧
    (∀ i A2 S2, i < n → J i A2 S2 → GW K g (.dat (.int i)) S2 A2 fun A3 S3 => Go K A3 tu S3 (E.loop (J (i + 1)))) ∧ ∀ A2 S2, J n A2 S2 → E.nx A2 S2) : Go K A (tFor wi g tu) S E :=
  go_for <| IW.imp h fun A1 ss ⟨e, J, j0, js, je⟩ => by
    subst e
    refine ⟨J, j0, fun i s A2 S2 hi hj => ?_, fun A2 S2 hj => je A2 S2 (by rw [irange_length] at hj; exact hj)⟩
    obtain ⟨h1, h2⟩ := irange_get hi
    rw [Int.zero_add] at h2
    subst h2
    exact js i A2 S2 h1 hj
end
end DL
namespace DL
open PySem L2
section
variable {K : PySem.W.Frag} {A A' : Amb} {S S' : List SV} {tk tv : TE} {vs : List Nat} {u u' : TGs}
theorem go_cut {E : DE} {tu : TS} (P : KS) (h : Go K A tu S (E.seq P)) (i : ∀ A1 S1, P A1 S1 → E.nx A1 S1) : Go K A tu S E := fun R F σ H D a sd o => h R F σ H D a sd ⟨fun A1 S1 F1 σ1 H1 hp => o.nx A1 S1 F1 σ1 H1 (i A1 S1 hp), o.bk, o.ct, o.rt⟩
theorem out_frz {R : List (Addr × Cell)} {F : Hp} {Q : VK} {k : KA} (q : OutV K R F Q k) : OutV K R F Q fun A1 s => ∃ p ds l', s = .ptr p ∧ Rem A1.cells p (.lst (ds.map .dat)) l' ∧ k ⟨A1.I, l'⟩ (.dat (.list ds)) := fun A1 s v F1 H1 ⟨p, ds, l', hs, hr, hk⟩ e1 a1 r1 => by
  subst hs
  obtain rfl : v = .ref p := r1
  obtain ⟨F2, e2, a2, d2⟩ := At.frz (A := ⟨A1.I, A1.cells ++ R⟩) a1 hr.app
  exact q _ _ _ _ _ hk (e1.trans e2) a2 d2
theorem cw_frz {r : List V → Hp → VK → Prop} {ss : List SV} (h : CW K r ss A fun A1 s => ∃ p ds l', s = .ptr p ∧ Rem A1.cells p (.lst (ds.map .dat)) l' ∧ k ⟨A1.I, l'⟩ (.dat (.list ds))) : CW K r ss A k := fun R F H vs Q a rs q => h R F H vs Q a rs (out_frz q)
theorem rw_eqS {x y : Str} (h : k A (.dat (.bool (decide (x = y))))) : RW K rEq (.dat (.str x)) (.dat (.str y)) A k := fun R F H v w Q a r1 r2 q => by
  obtain rfl := sr_str r1
  obtain rfl := sr_str r2
  have e : decide (V.str x = V.str y) = decide (x = y) := decide_eq_decide.mpr ⟨fun h => V.str.inj h, fun h => by rw [h]⟩
  exact ⟨rfl, by rw [e]; exact q A _ _ F H h (Same.refl F) a (.bl _)⟩
theorem rw_neS {x y : Str} (h : k A (.dat (.bool (!decide (x = y))))) : RW K rNe (.dat (.str x)) (.dat (.str y)) A k := fun R F H v w Q a r1 r2 q => by
  obtain rfl := sr_str r1
  obtain rfl := sr_str r2
  have e : decide (V.str x = V.str y) = decide (x = y) := decide_eq_decide.mpr ⟨fun h => V.str.inj h, fun h => by rw [h]⟩
  exact ⟨rfl, by rw [e]; exact q A _ _ F H h (Same.refl F) a (.bl _)⟩
def IsD (A : Amb) (s : SV) (d : PyData) : Prop := s = .dat d ∨ ∃ p ds, s = .ptr p ∧ (p, Cell.lst (ds.map .dat)) ∈ A.cells ∧ d = .list ds
theorem wp_isiG {T : String} (h : Wp K A ta S fun A1 s => ∃ d, IsD A1 s d ∧ T ∈ kinds ∧ k A1 (.dat (.bool (isK T d)))) : Wp K A (tCB (rIsiD K) (tCons ta (tCons (tC (.ty T)) tNil))) S k := fun R F σ H Q a sd q =>
  h R F σ H _ a sd fun A1 s v F1 H1 ⟨d, hs, hT, hk⟩ e1 a1 r1 => by
    rcases hs with hs | ⟨p, ds, hs, hp, rfl⟩
    · subst hs
      exact ⟨v, T, d, rfl, hT, (Dt.mono a1.same r1).dp, q A1 _ _ F1 H1 hk e1 a1 (.bl _)⟩
    · subst hs
      obtain rfl : v = .ref p := r1
      exact ⟨_, T, .list ds, rfl, hT, a1.cellP hp, q A1 _ _ F1 H1 hk e1 a1 (.bl _)⟩
theorem wp_join {b : Bool} (P : KA) (h1 : b = true → Wp K A ta S P) (h2 : b = false → Wp K A tb S P) (h3 : ∀ A1 s1, P A1 s1 → k A1 s1) : (b = true → Wp K A ta S k) ∧ (b = false → Wp K A tb S k) := ⟨fun h => (h1 h).imp h3, fun h => (h2 h).imp h3⟩
/-- both ways of an if meet -/
theorem if_join {E : DE} {tu tw : TS} {b : Bool} {f : KS} (P : KS) (h1 : b = true → Go K A tu S (E.seq P)) (h2 : b = false → Go K A tw S (E.seq P)) (h3 : ∀ A1 S1, P A1 S1 → f A1 S1) : (b = true → Go K A tu S (E.seq f)) ∧ (b = false → Go K A tw S (E.seq f)) :=
  ⟨fun h => go_cut (E := E.seq f) P (h1 h) h3, fun h => go_cut (E := E.seq f) P (h2 h) h3⟩
/-! ### targets of comprehensions, in short -/
structure TsOk (u : TGs) (vs : List Nat) : Prop where
  mono : TsMono u
  only : TsOnly u vs
theorem tok_nil : TsOk gNil vs := ⟨tms_nil, tos_nil⟩
theorem tok_name {i : Nat} (h : i ∈ vs) (o : TsOk u vs) : TsOk (gCons (gName i) u) vs := ⟨tms_cons tm_name o.mono, tos_cons tm_name o.mono (to_name h) o.only⟩
theorem tok_tup {n : Nat} (o' : TsOk u' vs) (o : TsOk u vs) : TsOk (gCons (gTup K n u') u) vs := ⟨tms_cons (tm_tup o'.mono) o.mono, tos_cons (tm_tup o'.mono) o.mono (to_tup o'.only) o.only⟩
theorem to_tupK {n : Nat} (o : TsOk u vs) : TOnly (gTup K n u) vs := to_tup o.only
theorem wpp_nil {k : Amb → List (SV × SV) → Prop} (h : k A []) : WpP K [] A S k := h
theorem wpp_cons {r : List (TE × TE)} {k : Amb → List (SV × SV) → Prop} (h : Wp K A tk S fun A1 s1 => Wp K A1 tv S fun A2 s2 => WpP K r A2 S fun A3 ps => k A3 ((s1, s2) :: ps)) : WpP K ((tk, tv) :: r) A S k := h
end
/-! ### tables with given keys -/
section
variable {κ : Type} [DecidableEq κ] {x y : κ} {v w : SV} {r : List (κ × SV)}
theorem look_hit : lookS ((x, v) :: r) x = some v := by simp [lookS]
theorem look_miss (h : ¬ y = x) : lookS ((y, v) :: r) x = lookS r x := by
  unfold lookS
  rw [List.find?_cons, decide_eq_false h]
theorem map_out (h : x ∉ r.map (·.1)) : (r.map fun kv => if kv.1 = x then (kv.1, v) else kv) = r := by
  induction r with
  | nil => rfl
  | cons a r ih =>
    rw [List.map_cons, List.mem_cons, not_or] at h
    rw [List.map_cons, ih h.2, if_neg fun e => h.1 e.symm]
theorem any_out (h : x ∉ r.map (·.1)) : (r.any fun kv => decide (kv.1 = x)) = false := by
  induction r with
  | nil => rfl
  | cons a r ih =>
    rw [List.map_cons, List.mem_cons, not_or] at h
    rw [List.any_cons, ih h.2, decide_eq_false fun e => h.1 e.symm]
    rfl
theorem put_hit (h : x ∉ r.map (·.1)) : putS ((x, w) :: r) x v = (x, v) :: r := by
  unfold putS
  rw [List.any_cons, decide_eq_true rfl, Bool.true_or, if_pos rfl, List.map_cons, if_pos rfl, map_out h]
theorem put_miss (h : ¬ y = x) : putS ((y, w) :: r) x v = (y, w) :: putS r x v := by
  unfold putS
  rw [List.any_cons, decide_eq_false h, Bool.false_or, List.map_cons, if_neg h]
  split <;> rfl
theorem put_out (h : x ∉ r.map (·.1)) : putS r x v = r ++ [(x, v)] := by
  unfold putS
  rw [any_out h, if_neg Bool.false_ne_true]
end
theorem merge_nodup_aux : ∀ (more kvs : List (Key × SV)), ((kvs ++ more).map (·.1)).Nodup → mergeS kvs more = kvs ++ more
  | [], kvs, _ => by simp [mergeS]
  | a :: more, kvs, h => by
    have h1 : a.1 ∉ kvs.map (·.1) := fun hm => by
      rw [List.map_append, List.nodup_append] at h
      exact h.2.2 _ hm _ (by simp) rfl
    show mergeS (putS kvs a.1 a.2) more = _
    rw [put_out h1, merge_nodup_aux more (kvs ++ [(a.1, a.2)]) (by simpa using h)]
    simp
theorem merge_nodup {kvs : List (Key × SV)} (h : (kvs.map (·.1)).Nodup) : mergeS [] kvs = kvs := merge_nodup_aux kvs [] h
end DL

/-! The rules with the written part named (so they may stand within a comprehension). -/
namespace DL
open PySem L2
section
variable {X : Cx}
theorem ixK (K : PySem.W.Frag) (h : X.K = K := by rfl) : IxR X (rIx K) := h ▸ ix_seq
theorem op_eqK (K : PySem.W.Frag) (hu : X.A.units + 65 < cLine) (h : X.K = K := by rfl) : OpR X (compareOp .Eq) (rEqD K) := h ▸ op_eqA hu
theorem op_neK (K : PySem.W.Frag) (hu : X.A.units + 65 < cLine) (h : X.K = K := by rfl) : OpR X (compareOp .NotEq) (rNeD K) := h ▸ op_neA hu
theorem op_inK (K : PySem.W.Frag) (hu : X.A.units + 65 < cLine) (h : X.K = K := by rfl) : OpR X (compareOp .In) (rInTD K) := h ▸ op_inTD hu
theorem op_niK (K : PySem.W.Frag) (hu : X.A.units + 65 < cLine) (h : X.K = K := by rfl) : OpR X (compareOp .NotIn) (rNotInTD K) := h ▸ op_notInTD hu
theorem call_lenK (K : PySem.W.Frag) (h : X.K = K := by rfl) : CallR X (.builtin "len") (rLenD K) := h ▸ call_lenA
theorem call_listK (K : PySem.W.Frag) (h : X.K = K := by rfl) : CallR X (.type "list") (rListD2 K) := h ▸ call_listA
theorem call_tupK (K : PySem.W.Frag) (h : X.K = K := by rfl) : CallR X (.type "tuple") (rTupD2 K) := h ▸ call_tupA
theorem cr_sortK (K : PySem.W.Frag) (hu : X.A.units + 65 < cLine) (h : X.K = K := by rfl) : CallR X (.builtin "sorted") (rSortedD K) := h ▸ cr_sortedD hu
theorem cr_reprK (K : PySem.W.Frag) (hu : X.A.units + 65 < cLine) (hg : X.A.guards = some []) (h : X.K = K := by rfl) : CallR X (.builtin "repr") (rReprD K) := h ▸ cr_reprD hu hg
theorem call_isiK2 (K : PySem.W.Frag) (h : X.K = K := by rfl) : CallR X (.builtin "isinstance") (rIsiD K) := h ▸ call_isiD
theorem pi_listK {tg l : Expr} {tl : TE} (K : PySem.W.Frag) (hl : PE X l tl) (h : X.K = K := by rfl) : PI X tg l (iList K tl) := h ▸ pi_list hl
theorem pi_tupK {tg l : Expr} {tl : TE} (K : PySem.W.Frag) (hl : PE X l tl) (h : X.K = K := by rfl) : PI X tg l (iTup K tl) := h ▸ pi_tup hl
theorem pg_tupK {es : List Expr} {k : Nat} {pos : Pos} {t : TGs} (K : PySem.W.Frag) (n : Nat) (hc : X.calm = true) (hp : PGs X es t) (hn : (assignEach es X.env).length = n := by rfl) (hst : (assignEach es X.env).findIdx? (·.1) = none := by rfl) (h : X.K = K := by rfl) : PG X (.Tuple es k pos) (gTup K n t) := h ▸ pg_tup hc hp hn hst
end
end DL

/-! How long what repr tells is. -/
namespace DL
open PySem L2
theorem str_app_len (a b : Str) : (a ++ b).length = a.length + b.length := Str.length_append a b
theorem textFrom_le : ∀ (ts : List Str) (j : Nat) (acc : Str), (textFrom j acc ts).length ≤ acc.length + piled ts
  | [], j, acc => by simp [textFrom]
  | t :: r, j, acc => by
    have h := textFrom_le r (j + 1) (acc ++ (if j > 0 then ", " else "" : String) ++ t)
    have e : (textFrom j acc (t :: r)) = textFrom (j + 1) (acc ++ (if j > 0 then ", " else "" : String) ++ t) r := rfl
    rw [e]
    refine Nat.le_trans h ?_
    rw [str_app_len, str_app_len]
    have h2 : ((if j > 0 then ", " else "" : String) : Str).length ≤ 2 := by
      split <;> decide +kernel
    have h3 : piled (t :: r) = t.length + 2 + piled r := by simp [piled] <;> omega
    omega
theorem listText_le (ts : List Str) : (listText ts).length ≤ piled ts + 2 := by
  unfold listText
  rw [str_app_len]
  have h := textFrom_le ts 0 "["
  have h1 : ("[" : Str).length = 1 := by decide +kernel
  have h2 : ("]" : Str).length = 1 := by decide +kernel
  omega
theorem tupleText_le (ts : List Str) : (tupleText ts).length ≤ piled ts + 3 := by
  unfold tupleText
  rw [str_app_len, str_app_len]
  have h1 : ("(" : Str).length = 1 := by decide +kernel
  have h2 : ((if ts.length == 1 then ",)" else ")" : String) : Str).length ≤ 2 := by
    split <;> decide +kernel
  have h3 : (Str.join ", " ts).length ≤ piled ts := by
    cases ts with
    | nil => decide +kernel
    | cons t r =>
      have := join_length_add (t :: r) (by simp)
      omega
  omega
mutual
/-- numbers of few figures, no texts, no dicts -/
def smallD : PyData → Bool
  | .none | .bool _ => true
  | .int i => decide (i.natAbs < 10 ^ 10)
  | .str _ | .dict _ => false
  | .list xs | .tuple xs => smallA xs
def smallA : List PyData → Bool
  | [] => true
  | x :: xs => smallD x && smallA xs
end
mutual
def wtD : PyData → Nat
  | .none | .bool _ => 5
  | .int _ => 11
  | .str _ | .dict _ => 0
  | .list xs | .tuple xs => wtA xs + 3
def wtA : List PyData → Nat
  | [] => 0
  | x :: xs => wtD x + 2 + wtA xs
end
mutual
theorem shown_le : ∀ d : PyData, smallD d = true → d.shown.length ≤ wtD d ∧ d.showable = true ∧ d.hasDict = false
  | .none, _ => ⟨by decide +kernel, by simp [PyData.showable], by simp [PyData.hasDict]⟩
  | .bool b, _ => ⟨by cases b <;> decide +kernel, by simp [PyData.showable], by simp [PyData.hasDict]⟩
  | .int i, h => by
    have h1 : i.natAbs < 10 ^ 10 := by simpa [smallD] using h
    refine ⟨?_, ?_, by simp [PyData.hasDict]⟩
    · show ((toString i : String) : Str).length ≤ 11
      have h2 := int_text_length_le10 (a := i) (k := 10) (by decide) h1
      rw [ofString_length]
      exact h2
    · simp only [PyData.showable, decide_eq_true_eq]
      have h3 : i.natAbs.log2 ≤ 34 := by
        by_cases z : i.natAbs = 0
        · rw [z]; decide
        · have := (Nat.log2_lt z (k := 35)).mpr (by omega)
          omega
      omega
  | .str _, h => by simp [smallD] at h
  | .dict _, h => by simp [smallD] at h
  | .list xs, h => by
    obtain ⟨h1, h2, h3⟩ := shownA_le xs (by simpa [smallD] using h)
    refine ⟨?_, by simpa [PyData.showable] using h2, by simpa [PyData.hasDict] using h3⟩
    have h4 := listText_le (PyData.shownAll xs)
    simp only [PyData.shown, wtD]
    omega
  | .tuple xs, h => by
    obtain ⟨h1, h2, h3⟩ := shownA_le xs (by simpa [smallD] using h)
    refine ⟨?_, by simpa [PyData.showable] using h2, by simpa [PyData.hasDict] using h3⟩
    have h4 := tupleText_le (PyData.shownAll xs)
    simp only [PyData.shown, wtD]
    omega
theorem shownA_le : ∀ xs : List PyData, smallA xs = true → piled (PyData.shownAll xs) ≤ wtA xs ∧ PyData.showableAll xs = true ∧ PyData.hasDictAll xs = false
  | [], _ => ⟨by simp [PyData.shownAll, piled, wtA], by simp [PyData.showableAll], by simp [PyData.hasDictAll]⟩
  | x :: xs, h => by
    simp only [smallA, Bool.and_eq_true] at h
    obtain ⟨h1, h2, h3⟩ := shown_le x h.1
    obtain ⟨h4, h5, h6⟩ := shownA_le xs h.2
    refine ⟨?_, by simp [PyData.showableAll, h2, h5], by simp [PyData.hasDictAll, h3, h6]⟩
    have h7 : piled (PyData.shownAll (x :: xs)) = x.shown.length + 2 + piled (PyData.shownAll xs) := by
      simp [PyData.shownAll, piled] <;> omega
    rw [h7]
    simp only [wtA]
    omega
end
theorem smallA_mem : ∀ {xs : List PyData}, smallA xs = true ↔ ∀ x ∈ xs, smallD x = true
  | [] => by simp [smallA]
  | x :: xs => by simp [smallA, smallA_mem (xs := xs)]
theorem wtA_le {n : Nat} : ∀ {xs : List PyData}, (∀ x ∈ xs, wtD x ≤ n) → wtA xs ≤ xs.length * (n + 2)
  | [], _ => by simp [wtA]
  | x :: xs, h => by
    have h1 := h x List.mem_cons_self
    have h2 := wtA_le (xs := xs) fun y hy => h y (List.mem_cons_of_mem _ hy)
    simp only [wtA, List.length_cons, Nat.succ_mul]
    omega
section
variable {K : PySem.W.Frag} {A : Amb} {k : KA}
/-- repr of a list or tuple of small things -/
theorem cw_reprS {d : PyData} (hc : (∃ ds, d = .list ds) ∨ ∃ ds, d = .tuple ds) (hs : smallD d = true) (hw : wtD d ≤ 1000000) (hd : d.depth ≤ 60) (h : k A (.dat (.str d.shown))) : CW K (rReprD K) [.dat d] A k := by
  obtain ⟨h1, h2, h3⟩ := shown_le d hs
  exact cw_reprD hc h2 h3 hd (Nat.le_trans h1 (Nat.le_trans hw (by decide))) h
theorem cw_reprSP {p : Addr} {ds : List PyData} (hp : (p, .lst (ds.map .dat)) ∈ A.cells) (hs : smallA ds = true) (hw : wtA ds ≤ 900000) (hd : PyData.depthAll ds ≤ 50) (h : k A (.dat (.str (PyData.list ds).shown))) : CW K (rReprD K) [.ptr p] A k := by
  obtain ⟨h1, h2, h3⟩ := shown_le (.list ds) (by simpa [smallD] using hs)
  refine cw_reprP hp h2 h3 (by simp only [PyData.depth]; omega) (Nat.le_trans h1 (Nat.le_trans (by simp only [wtD]; omega : _ ≤ 1000000) (by decide))) h
theorem cw_reprSL {ds : List PyData} (hs : smallA ds = true) (hw : wtA ds ≤ 900000) (hd : PyData.depthAll ds ≤ 50) (h : k A (.dat (.str (PyData.list ds).shown))) : CW K (rReprD K) [.dat (.list ds)] A k :=
  cw_reprS (.inl ⟨_, rfl⟩) (by simpa [smallD] using hs) (by simp only [wtD]; omega) (by simp only [PyData.depth]; omega) h
end
end DL

/-! sum of lists, from a list on. -/
namespace DL
open PySem L2
open Sem (wp)
section
variable {prog : Program} {w : World} {A : Around} {R : Result → Shared → Prop}
abbrev lobj (its : List Value) (n : Nat) : Obj := { cls := .type "list", data := .seq its.toArray n }
theorem args_sum2 (a b : Value) : argsOk "sum" ⟨[a, b], []⟩ := by unfold argsOk; kernel_rfl
theorem codeAny_sumL {h₀ : Heap} {I ax : Addr} {its : Array Value} {rows : List (List Value)} (W : Walks prog w A.in1 I [I, ax] [I] its.size (fun i v => its[i]? = some v) (fun i h => h.IsListIter I ax i ∧ h.IsList ax its))
    (hI : h₀.get? I = none) (S : Addr) (hS0 : h₀.objs.size ≤ S) (hSI : S ≠ I) (hSa : S ≠ ax)
    (hrows : ∀ (i : Nat) (v : Value), its[i]? = some v → ∃ (b : Addr) (vs : List Value) (n : Nat), v = Value.ref b ∧ rows[i]? = some vs ∧ h₀.get? b = some (lobj vs n)) (hlen : rows.length = its.size) (hz : (rows.map List.length).sum ≤ sizeLine) :
    ∀ (k i : Nat) (s : Shared) (T : Addr) (acc : List Value) (n c : Nat), its.size - i = k → i ≤ its.size → s.heap.IsListIter I ax i ∧ s.heap.IsList ax its → s.heap.get? S = some { cls := .type "list", dict := none, data := .seq #[.ref T] c, slots := #[] } →
    s.heap.get? T = some (lobj acc n) → T ≠ I → T ≠ S → acc.length ≤ ((rows.take i).map List.length).sum → (∀ b o, h₀.get? b = some o → s.heap.get? b = some o) →
    (∀ h' tk T' n', (∀ b o, h₀.get? b = some o → h'.get? b = some o) → h'.get? T' = some (lobj (acc ++ (rows.drop i).flatten) n') → (i = its.size → T' = T) → (i < its.size → h₀.objs.size ≤ T') → R (.ok (.ret (.ref T'))) { s with heap := h', toks := tk }) →
    codeAny (model prog w) A (.builtin "sum.loop" ⟨[.ref I, .ref S, rawInt 2, rawInt 0], []⟩) R s := by
  intro k
  induction k with
  | zero =>
    intro i s T acc n c hk hi hst hS hT hTI hTS ha hb hR
    have hin : i = its.size := by omega
    refine codeAny_builtin PySem.F.entry_sum_loop ?_
    rw [Around.under_plainId PySem.F.plain_sum_loop _]
    show wpAny _ A.in1 (seqItems? (.ref S) >>= _) _ _ s
    refine wpAny_bind (wpAny_seqItems hS rfl ?_)
    show wpAny _ A.in1 (tryCatch (pyNext (.ref I)) _ >>= _) _ _ s
    refine wpAny_bind (wpAny_tryCatch (W.done s _ _ (hin ▸ hst) fun h' tk hk' => ?_))
    refine wpAny_pure (hR h' tk T n (fun b o e => hk' b o (fun hm => ?_) (hb b o e)) ?_ (fun _ => rfl) (fun hlt => absurd hlt (by omega)))
    · rw [List.mem_singleton.mp hm, hI] at e
      cases e
    · rw [List.drop_of_length_le (by omega), List.flatten_nil, List.append_nil]
      exact hk' _ _ (fun hm => hTI (List.mem_singleton.mp hm)) hT
  | succ k ih =>
    intro i s T acc n c hk hi hst hS hT hTI hTS ha hb hR
    have hlt : i < its.size := by omega
    refine codeAny_builtin PySem.F.entry_sum_loop ?_
    rw [Around.under_plainId PySem.F.plain_sum_loop _]
    show wpAny _ A.in1 (seqItems? (.ref S) >>= _) _ _ s
    refine wpAny_bind (wpAny_seqItems hS rfl ?_)
    show wpAny _ A.in1 (tryCatch (pyNext (.ref I)) _ >>= _) _ _ s
    refine wpAny_bind (wpAny_tryCatch (W.item i s _ _ hlt hst fun v h' tk hP hst' hk' => ?_))
    obtain ⟨b, vs, nb, rfl, hr, hbo⟩ := hrows i v hP
    have hS' := hk' S _ (fun hm => hSI (List.mem_singleton.mp hm)) hS
    have hT' := hk' T _ (fun hm => hTI (List.mem_singleton.mp hm)) hT
    have hb0 : ∀ c o, h₀.get? c = some o → h'.get? c = some o := fun c o e => hk' c o (fun hm => by rw [List.mem_singleton.mp hm, hI] at e; cases e) (hb c o e)
    have hb' := hb0 b _ hbo
    have hsum : ((rows.take (i + 1)).map List.length).sum = ((rows.take i).map List.length).sum + vs.length := by
      rw [List.take_add_one, hr]; simp
    have hle : ((rows.take (i + 1)).map List.length).sum ≤ (rows.map List.length).sum := by
      have e := congrArg (fun l => (l.map List.length).sum) (List.take_append_drop (i + 1) rows)
      simp only [List.map_append, List.sum_append] at e
      omega
    have hz2 : acc.toArray.size + vs.toArray.size ≤ sizeLine := by
      rw [List.size_toArray, List.size_toArray]
      omega
    show wpAny _ A.in1 ((holding [Value.ref b] (binaryOp .Add (.ref T) (.ref b))).attempt >>= _) _ _ _
    refine wpAny_bind (wpAny_attempt (wpAny_holding (PySem.P.add_list hT' hb' ?_ hz2)))
    have ea : acc.toArray ++ vs.toArray = (acc ++ vs).toArray := by simp
    rw [ea]
    have hSlt : S < h'.objs.size := Heap.lt_size hS'
    have hsz : h₀.objs.size ≤ h'.objs.size := Nat.le_trans hS0 (Nat.le_of_lt hSlt)
    have hIlt : I < h'.objs.size := by obtain ⟨_, e, _⟩ := hst'.1; exact Heap.lt_size e
    have hnT : (h'.push (lobj (acc ++ vs) 0)).get? h'.objs.size = some (lobj (acc ++ vs) 0) := Heap.get?_push_size _ rfl
    have hnS := Heap.get?_push_of_some (lobj (acc ++ vs) 0) hS'
    refine wpAny_bind (wpAny_updateSeq hnS rfl ?_)
    have hS₂ := Heap.get?_update_self (Obj.mapSeq fun _ => #[Value.ref h'.objs.size]) hnS rfl
    refine wpAny_bind (wpAny_letGo ?_)
    refine wpAny_bind (wpAny_updateSeq hS₂ rfl (wpAny_pure ⟨plainId_quiet PySem.F.plain_sum_loop _, ?_⟩))
    have up : ∀ b o, b ≠ S → h'.get? b = some o → (((h'.push (lobj (acc ++ vs) 0)).update S (Obj.mapSeq fun _ => #[Value.ref h'.objs.size])).update S (Obj.mapSeq fun _ => #[Value.ref h'.objs.size])).get? b = some o := fun b o hne e =>
      (Heap.get?_update_other _ _ (Ne.symm hne)).trans ((Heap.get?_update_other _ _ (Ne.symm hne)).trans (Heap.get?_push_of_some _ e))
    refine ih (i + 1) _ h'.objs.size (acc ++ vs) 0 _ (by omega) hlt (W.frame _ _ _ hst' fun b hb o e => up b o ?_ e) (Heap.get?_update_self _ hS₂ rfl) ?_ (Nat.ne_of_gt hIlt) (Nat.ne_of_gt hSlt) (by rw [List.length_append]; omega) (fun b o e => up b o ?_ (hb0 b o e)) fun h3 tk3 T3 n3 k3 e3 l3 g3 => ?_
    · intro e2
      subst e2
      rcases List.mem_cons.mp hb with e2 | hb
      · exact hSI e2
      · exact hSa (List.mem_singleton.mp hb)
    · exact (Heap.get?_update_other _ _ (Nat.ne_of_lt hSlt)).trans ((Heap.get?_update_other _ _ (Nat.ne_of_lt hSlt)).trans hnT)
    · intro e2
      subst e2
      exact Nat.lt_irrefl _ (Nat.lt_of_lt_of_le (Heap.lt_size e) hS0)
    · refine hR h3 tk3 T3 n3 k3 ?_ (fun e => absurd e (by omega)) fun _ => ?_
      · have e4 : rows.drop i = vs :: rows.drop (i + 1) := by
          have hi2 := (List.getElem?_eq_some_iff.mp hr).1
          rw [List.drop_eq_getElem_cons hi2]
          congr 1
          exact (List.getElem?_eq_some_iff.mp hr).2
        rw [e4, List.flatten_cons, ← List.append_assoc]
        exact e3
      · by_cases e : i + 1 < its.size
        · exact g3 e
        · rw [l3 (by omega)]
          exact hsz
theorem call_sumL_raw {E : Value → Shared → Prop} {s : Shared} {l b0 : Addr} {its : Array Value} {rows : List (List Value)} {n0 : Nat} {Q : Value → Shared → Prop} (hh : A.handled = none) (hl : s.heap.IsList l its) (hb : s.heap.get? b0 = some (lobj [] n0))
    (hrows : ∀ (i : Nat) (v : Value), its[i]? = some v → ∃ (b : Addr) (vs : List Value) (n : Nat), v = Value.ref b ∧ rows[i]? = some vs ∧ s.heap.get? b = some (lobj vs n)) (hlen : rows.length = its.size) (hz : (rows.map List.length).sum ≤ sizeLine)
    (h : ∀ h' tk T n, (∀ b o, s.heap.get? b = some o → h'.get? b = some o) → h'.get? T = some (lobj rows.flatten n) → (its.size = 0 → T = b0) → (0 < its.size → s.heap.objs.size ≤ T) → Q (.ref T) { s with heap := h', toks := tk }) :
    wpAny (model prog w) A (call (.builtin "sum") [.ref l, .ref b0]) Q E s := by
  refine call_function_tree PySem.F.kind_sum PySem.F.plain_sum PySem.F.entry_sum (args_sum2 _ _) ?_
  unfold Builtin.«sum»
  simp only [List.length_cons, List.length_nil]
  rw [if_neg (by decide)]
  refine wpAny_bind (wpAny_of_eq (show Builtin.Builtins.bindParams "sum" ["start"] 0 ⟨[.ref b0], []⟩ = pure [some (.ref b0)] from rfl) ?_)
  refine wpAny_bind (PySem.Flt.iter_list_ hl fun s₂ e st hfp hlI => ?_)
  subst e
  refine wpAny_bind (wpAny_pure ?_)
  simp only [List.forIn_cons, List.forIn_nil]
  have hb2 := Heap.get?_push_of_some { cls := .type "list_iterator", data := .fields #[.ref l, .int 0 0] } hb
  have hT : Shared.TypeIs { s with heap := s.heap.push { cls := .type "list_iterator", data := .fields #[.ref l, .int 0 0] } } (.ref b0) "list" := ⟨_, hb2, rfl⟩
  refine wpAny_bind (wpAny_bind (wpAny_bind (wpAny_isInstance (T := "list") (b := false) hT PySem.F.sub_list_str ?_)))
  simp only [Bool.false_eq_true, if_false]
  refine wpAny_pure (wpAny_bind (wpAny_bind (wpAny_isInstance (T := "list") (b := false) hT PySem.F.sub_list_bytes ?_)))
  simp only [Bool.false_eq_true, if_false]
  refine wpAny_pure (wpAny_bind (wpAny_bind (wpAny_isInstance (T := "list") (b := false) hT PySem.F.sub_list_bytearray ?_)))
  simp only [Bool.false_eq_true, if_false]
  refine wpAny_pure (wpAny_pure ?_)
  refine wpAny_bind (wpAny_newObj_type ?_)
  have hsz1 : (s.heap.push { cls := .type "list_iterator", data := .fields #[.ref l, .int 0 0] }).objs.size = s.heap.objs.size + 1 := Heap.size_push ..
  have hnone : s.heap.get? s.heap.objs.size = none := by
    cases e : s.heap.get? s.heap.objs.size with
    | none => rfl
    | some o => exact absurd (Heap.lt_size e) (Nat.lt_irrefl _)
  have up : ∀ b o, s.heap.get? b = some o → ((s.heap.push { cls := .type "list_iterator", data := .fields #[.ref l, .int 0 0] }).push { cls := .type "list", data := .seq #[.ref b0] }).get? b = some o := fun b o e => Heap.get?_push_of_some _ (Heap.get?_push_of_some _ e)
  have hlt : l < s.heap.objs.size := by obtain ⟨_, e, _⟩ := hl; exact Heap.lt_size e
  have hb0 : b0 < s.heap.objs.size := Heap.lt_size hb
  refine wpAny_pure ⟨plainId_quiet PySem.F.plain_sum_loop _, codeAny_sumL (h₀ := s.heap) (rows := rows) (Walks.list (A := A.in1) hh _ l hlI its) hnone _ (by rw [hsz1]; exact Nat.le_succ _) (by rw [hsz1]; exact Nat.succ_ne_self _) (by rw [hsz1]; exact Nat.ne_of_gt (Nat.lt_succ_of_lt hlt))
    hrows hlen hz its.size 0 _ b0 [] n0 0 rfl (Nat.zero_le _) ⟨?_, ?_⟩ (Heap.get?_push_size _ rfl) (up _ _ hb) (Nat.ne_of_lt hb0) (by rw [hsz1]; exact Nat.ne_of_lt (Nat.lt_succ_of_lt hb0)) (Nat.zero_le _) up fun h' tk T' n' k e l1 g => ?_⟩
  · obtain ⟨o, e, a, b⟩ := st.1
    exact ⟨o, Heap.get?_push_of_some _ e, a, b⟩
  · exact st.2.push _
  · exact h h' tk T' n' k (by simpa using e) (fun e => l1 e.symm) g
end
inductive RowsOf (H : Hp) : List V → List (List V) → Prop
  | nil : RowsOf H [] []
  | cons {b : Addr} {ys : List V} {vs : List V} {yss : List (List V)} : H b = some (.lst ys) → RowsOf H vs yss → RowsOf H (.ref b :: vs) (ys :: yss)
def rSumL (K : PySem.W.Frag) : List V → Hp → VK → Prop := fun vs H Q => ∃ (a b0 : Addr) (xs : List V) (yss : List (List V)), vs = [V.ref a, V.ref b0] ∧ SqL K H a xs ∧ H b0 = some (.lst []) ∧ RowsOf H xs yss ∧ (yss.map List.length).sum ≤ sizeLine ∧
  (xs = [] → Q (.ref b0) H) ∧ (∀ T, H T = none → Q (.ref T) (upd H T (.lst yss.flatten)))
section
variable {X : Cx} {pins : List (Addr × Obj)} {σ : St} {H : Hp} {s : Shared}
theorem rows_raw (I : Inv X pins σ H s) : ∀ {xs : List V} {yss : List (List V)} {its : List Value}, RowsOf H xs yss → Vals xs its → ∃ rows : List (List Value), rows.length = its.length ∧ Vals yss.flatten rows.flatten ∧ (rows.map List.length).sum = (yss.map List.length).sum ∧
    ∀ (i : Nat) (v : Value), its[i]? = some v → ∃ (b : Addr) (vs : List Value) (n : Nat), v = Value.ref b ∧ rows[i]? = some vs ∧ s.heap.get? b = some (lobj vs n)
  | _, _, _, .nil, .nil => ⟨[], rfl, .nil, rfl, fun i v e => by simp at e⟩
  | _, _, _, .cons hb hr, .cons r1 r2 => by
    obtain ⟨rows, h1, h2, h3, h4⟩ := rows_raw I hr r2
    obtain ⟨_, its, n, r, hl, e⟩ := I.lstM hb
    cases r1
    refine ⟨its :: rows, by simp [h1], ?_, by simp [h3, hl], fun i v hv => ?_⟩
    · rw [List.flatten_cons, List.flatten_cons]
      exact r.append h2
    · cases i with
      | zero =>
        simp at hv
        subst hv
        exact ⟨_, its, n, rfl, rfl, e⟩
      | succ i => exact h4 i v (by simpa using hv)
theorem call_sumL (hc : X.calm = true) : CallR X (.builtin "sum") (rSumL X.K) := by
  intro pins s σ H vs us Q I r h
  obtain ⟨a, b0, xs, yss, rfl, hs, hb, hr, hz, q0, q1⟩ := h
  obtain ⟨its, rv, hl, _⟩ := I.list hs
  obtain ⟨_, ib, nb, rb, lb, eb⟩ := I.lstM hb
  cases rb
  obtain ⟨rows, e1, e2, e3, e4⟩ := rows_raw I hr rv
  have hus : us = [.ref a, .ref b0] := by
    cases r with
    | cons ra r =>
      cases r with
      | cons rb r =>
        cases r
        cases ra
        cases rb
        rfl
  rw [hus]
  refine call_sumL_raw (rows := rows) (I.ok.hd hc) hl.isList eb (by simpa using e4) (by simp [e1]) (by rw [e3]; exact hz) fun h' tk T n k hT l0 g => ?_
  by_cases hx : xs = []
  · subst hx
    cases rv
    rw [l0 rfl]
    exact ⟨.ref _, H, I.kept k, rfl, q0 rfl⟩
  · have hp : 0 < its.toArray.size := by
      have := rv.length
      have : xs.length ≠ 0 := fun e => hx (List.eq_nil_of_length_eq_zero e)
      rw [List.size_toArray]
      omega
    have hf : yss.flatten.length ≤ sizeLine := by rw [List.length_flatten]; exact hz
    exact ⟨.ref T, _, I.laid (o := .lst yss.flatten) k (g hp) ⟨hf, _, n, e2, hT⟩, rfl, q1 T (I.hok.fresh (g hp))⟩
end
theorem call_sumLK (K : PySem.W.Frag) {X : Cx} (hc : X.calm = true) (hK : X.K = K := by rfl) : CallR X (.builtin "sum") (rSumL K) := by
  subst hK
  exact call_sumL hc
section
variable {K : PySem.W.Frag} {A : Amb} {k : Amb → SV → Prop}
theorem rows_of {F : Hp} : ∀ {xs : List V} {dss : List (List PyData)}, DtAll K F xs (dss.map PyData.list) → ∃ yss, RowsOf F xs yss ∧ DtAll K F yss.flatten dss.flatten ∧ (yss.map List.length).sum = (dss.map List.length).sum
  | _, [], .nil => ⟨[], .nil, .nil, rfl⟩
  | _, d :: ds, .cons h1 h2 => by
    obtain ⟨yss, h3, h4, h5⟩ := rows_of h2
    cases h1 with
    | lst e r => exact ⟨_ :: yss, .cons e h3, r.append h4, by simp [h5, r.length]⟩
theorem RowsOf.mono {F F' : Hp} (e : Same F F') : ∀ {xs : List V} {yss : List (List V)}, RowsOf F xs yss → RowsOf F' xs yss
  | _, _, .nil => .nil
  | _, _, .cons h r => .cons (e _ _ h) (RowsOf.mono e r)
/-- sum of data lists, from [] on -/
theorem cw_sumL {dss : List (List PyData)} (hz : (dss.map List.length).sum ≤ sizeLine) (h : k A (.dat (.list dss.flatten))) : CW K (rSumL K) [.dat (.list (dss.map PyData.list)), .dat (.list [])] A k := fun R F H vs Q a r q => by
  obtain ⟨v, w, rfl, r1, r2⟩ := two_of r
  obtain ⟨p, xs, rfl, h1, h2⟩ := sr_lst r1
  obtain ⟨p2, xs2, rfl, h3, h4⟩ := sr_lst r2
  cases h4
  obtain ⟨yss, e1, e2, e3⟩ := rows_of h2
  refine ⟨p, p2, xs, yss, rfl, .inl (.inl (a.same _ _ h1)), a.same _ _ h3, e1.mono a.same, by rw [e3]; exact hz, fun hx => ?_, fun T hT => ?_⟩
  · subst hx
    cases e1
    cases dss with
    | cons _ _ => cases h2
    | nil => exact q A _ _ F H h (Same.refl F) a r2
  · obtain ⟨a2, e4⟩ := a.alloc (o := .lst yss.flatten) hT
    exact q A _ _ _ _ h e4 a2 (.lst upd_same (e2.mono e4))
end
end DL

namespace Q23
open PySem L2 DL
def topS (i : Nat) : Stmt := PySem.Challenge.pw_lothouse_k23_sides_between_regions.main.body.getD i (.Pass ⟨0, 0, 0, 0⟩)
abbrev NN_going : List Str := ["side", "begin", "end"]
abbrev s_going : Stmt := topS 4
theorem sc_going : FnScope NN_going ["side"] (defScope s_going) := ⟨rfl, rfl, rfl, by decide +kernel, rfl, by decide +kernel, by decide +kernel⟩
abbrev NN_left_of : List Str := ["side", "i", "j", "way"]
abbrev s_left_of : Stmt := topS 5
theorem sc_left_of : FnScope NN_left_of ["side"] (defScope s_left_of) := ⟨rfl, rfl, rfl, by decide +kernel, rfl, by decide +kernel, by decide +kernel⟩
abbrev NN_right_of : List Str := ["side", "begin", "end"]
abbrev s_right_of : Stmt := topS 6
theorem sc_right_of : FnScope NN_right_of ["side"] (defScope s_right_of) := ⟨rfl, rfl, rfl, by decide +kernel, rfl, by decide +kernel, by decide +kernel⟩
abbrev NN_round_cell : List Str := ["cell", "i", "j", "corners", "at"]
abbrev s_round_cell : Stmt := topS 7
theorem sc_round_cell : FnScope NN_round_cell ["cell"] (defScope s_round_cell) := ⟨rfl, rfl, rfl, by decide +kernel, rfl, by decide +kernel, by decide +kernel⟩
abbrev NN_sides : List Str := ["cells", "cell", "side"]
abbrev s_sides : Stmt := topS 8
theorem sc_sides : FnScope NN_sides ["cells"] (defScope s_sides) := ⟨rfl, rfl, rfl, by decide +kernel, rfl, by decide +kernel, by decide +kernel⟩
abbrev NN_between : List Str := ["one", "other", "side"]
abbrev s_between : Stmt := topS 9
theorem sc_between : FnScope NN_between ["one", "other"] (defScope s_between) := ⟨rfl, rfl, rfl, by decide +kernel, rfl, by decide +kernel, by decide +kernel⟩
abbrev NN__law_begun : List Str := ["script"]
abbrev s__law_begun : Stmt := topS 11
theorem sc__law_begun : FnScope NN__law_begun ["script"] (defScope s__law_begun) := ⟨rfl, rfl, rfl, by decide +kernel, rfl, by decide +kernel, by decide +kernel⟩
abbrev NN__law_take : List Str := ["draw", "many", "great", "found", "turn", "cell"]
abbrev s__law_take : Stmt := topS 12
theorem sc__law_take : FnScope NN__law_take ["draw", "many"] (defScope s__law_take) := ⟨rfl, rfl, rfl, by decide +kernel, rfl, by decide +kernel, by decide +kernel⟩
abbrev NN__law_box : List Str := ["draw", "wide", "high", "found", "i", "j"]
abbrev s__law_box : Stmt := topS 13
theorem sc__law_box : FnScope NN__law_box ["draw", "wide", "high"] (defScope s__law_box) := ⟨rfl, rfl, rfl, by decide +kernel, rfl, by decide +kernel, by decide +kernel⟩
abbrev NN__law_size : List Str := ["draw"]
abbrev s__law_size : Stmt := topS 14
theorem sc__law_size : FnScope NN__law_size ["draw"] (defScope s__law_size) := ⟨rfl, rfl, rfl, by decide +kernel, rfl, by decide +kernel, by decide +kernel⟩
abbrev NN__law_around : List Str := ["cell", "i", "j", "found"]
abbrev s__law_around : Stmt := topS 15
theorem sc__law_around : FnScope NN__law_around ["cell"] (defScope s__law_around) := ⟨rfl, rfl, rfl, by decide +kernel, rfl, by decide +kernel, by decide +kernel⟩
abbrev NN__law_sides : List Str := ["region", "found", "cell", "begin", "end", "right"]
abbrev s__law_sides : Stmt := topS 16
theorem sc__law_sides : FnScope NN__law_sides ["region"] (defScope s__law_sides) := ⟨rfl, rfl, rfl, by decide +kernel, rfl, by decide +kernel, by decide +kernel⟩
abbrev NN__law_parted : List Str := ["draw", "box", "many", "marks", "lots", "cell", "mark", "lot", "k"]
abbrev s__law_parted : Stmt := topS 17
theorem sc__law_parted : FnScope NN__law_parted ["draw", "box"] (defScope s__law_parted) := ⟨rfl, rfl, rfl, by decide +kernel, rfl, by decide +kernel, by decide +kernel⟩
abbrev NN__law_beside : List Str := ["first", "last", "found", "cell", "begin", "end", "right"]
abbrev s__law_beside : Stmt := topS 18
theorem sc__law_beside : FnScope NN__law_beside ["first", "last"] (defScope s__law_beside) := ⟨rfl, rfl, rfl, by decide +kernel, rfl, by decide +kernel, by decide +kernel⟩
abbrev NN_law : List Str := ["script", "draw", "turn", "wide", "high", "box", "lots", "owned", "free", "first", "beyond", "every", "last", "found", "back", "lot", "cell", "side", "begin", "end"]
abbrev s_law : Stmt := topS 19
theorem sc_law : FnScope NN_law ["script"] (defScope s_law) := ⟨rfl, rfl, rfl, by decide +kernel, rfl, by decide +kernel, by decide +kernel⟩

/-! ### the data -/
abbrev Cl := Int × Int
abbrev Sd := Cl × Cl
def cD (c : Cl) : PyData := .tuple [.int c.1, .int c.2]
def sD (s : Sd) : PyData := .tuple [cD s.1, cD s.2]
def tD (t : Cl × Cl × Cl) : PyData := .tuple [cD t.1, cD t.2.1, cD t.2.2]
theorem cD_plain (c : Cl) : plainD (cD c) = true := by simp [cD, plainD, plainA]
theorem cD_inj (a b : Cl) (h : cD a = cD b) : a = b := by
  simp only [cD, PyData.tuple.injEq, List.cons.injEq, PyData.int.injEq, and_true] at h
  exact Prod.ext h.1 h.2
theorem sD_plain (s : Sd) : plainD (sD s) = true := by simp [sD, plainD, plainA, cD_plain]
theorem sD_inj (a b : Sd) (h : sD a = sD b) : a = b := by
  simp only [sD, PyData.tuple.injEq, List.cons.injEq, and_true] at h
  exact Prod.ext (cD_inj _ _ h.1) (cD_inj _ _ h.2)
theorem cD_depth (c : Cl) : (cD c).depth ≤ 1 := by simp [cD, PyData.depth, PyData.depthAll]
theorem sD_depth (s : Sd) : (sD s).depth ≤ 2 := by
  have h1 := cD_depth s.1
  have h2 := cD_depth s.2
  simp only [sD, PyData.depth, PyData.depthAll]
  omega
theorem cD_shaped (c : Cl) : SeqAt.shaped (cD c) = true := shaped_plain (cD_plain c) (by have := cD_depth c; omega)
theorem sD_shaped (c : Sd) : SeqAt.shaped (sD c) = true := shaped_plain (sD_plain c) (by have := sD_depth c; omega)
theorem depthAll_map {α : Type} {f : α → PyData} {n : Nat} (h : ∀ a, (f a).depth ≤ n) (xs : List α) : PyData.depthAll (xs.map f) ≤ n := depthAll_le fun x hx => by
  obtain ⟨c, _, rfl⟩ := List.mem_map.mp hx
  exact h c
theorem cells_shaped (cs : List Cl) : SeqAt.shaped (.tuple (cs.map cD)) = true := shaped_plain (by simp only [plainD]; exact plainA_map cD_plain cs) (by
  have h := depthAll_map cD_depth cs
  simp only [PyData.depth]
  omega)
theorem cellsL_shaped (cs : List Cl) : SeqAt.shaped (.list (cs.map cD)) = true := shaped_plain (by simp only [plainD]; exact plainA_map cD_plain cs) (by
  have h := depthAll_map cD_depth cs
  simp only [PyData.depth]
  omega)
theorem sz {n : Nat} (h : n ≤ 100000) : n ≤ sizeLine := Nat.le_trans h (by decide)
theorem szl {n : Nat} (h : n < 100000) : n < sizeLine := Nat.lt_of_lt_of_le h (by decide)
theorem in_cells (cs : List Cl) (c : Cl) : (cs.map cD).any (fun z => PyData.eqv z (cD c)) = decide (c ∈ cs) := by rw [any_enc cD_plain cD_inj]; congr
theorem eq_cell (a b : Cl) : PyData.eqv (cD a) (cD b) = decide (a = b) := eqv_enc cD_plain cD_inj a b
theorem eq_int (a b : Int) : PyData.eqv (.int a) (.int b) = decide (a = b) := by
  simp only [PyData.eqv]
  by_cases h : a = b <;> simp [h]
theorem sides_alike (l : List Sd) : PySem.W.AllAlike (l.map sD) := PySem.W.AllAlike.of fun a b => by simp [sD, cD, PySem.W.alike, PySem.W.alikeAll]
theorem sides_sort (l : List Sd) : PySem.W.Sortable (l.map sD) := PySem.W.Sortable.tuples fun a => ⟨_, _, rfl⟩
theorem sides_depth (l : List Sd) : ∀ d ∈ l.map sD, d.depth ≤ 60 := fun d hd => by
  obtain ⟨s, _, rfl⟩ := List.mem_map.mp hd
  have := sD_depth s
  omega
theorem sides_plain (l : List Sd) : plainA (l.map sD) = true := plainA_map sD_plain l
/-! ### the program -/
def going (s : Sd) : Cl := (s.2.1 - s.1.1, s.2.2 - s.1.2)
def leftOf (s : Sd) : Cl := if going s = (1, 0) then s.1 else if going s = (0, 1) then (s.1.1 - 1, s.1.2) else if going s = (-1, 0) then (s.1.1 - 1, s.1.2 - 1) else (s.1.1, s.1.2 - 1)
def rightOf (s : Sd) : Cl := leftOf (s.2, s.1)
def roundCell (c : Cl) : List Sd := [((c.1, c.2 + 1), (c.1, c.2)), ((c.1, c.2), (c.1 + 1, c.2)), ((c.1 + 1, c.2), (c.1 + 1, c.2 + 1)), ((c.1 + 1, c.2 + 1), (c.1, c.2 + 1))]
def presides (cs : List Cl) : List Sd := cs.flatMap fun c => (roundCell c).filter fun s => decide (¬ rightOf s ∈ cs)
def sidesD (cs : List Cl) : List PyData := dsort ((presides cs).map sD)

/-! ### the draws -/
abbrev kG : Key := .inr "great"
abbrev kA : Key := .inr "at"
abbrev kR : Key := .inr "rest"
abbrev kT : Key := .inr "turn"
abbrev kM : Key := .inr "more"
theorem kGA : ¬ kG = kA := by decide +kernel
theorem kGR : ¬ kG = kR := by decide +kernel
theorem kGT : ¬ kG = kT := by decide +kernel
theorem kGM : ¬ kG = kM := by decide +kernel
theorem kAR : ¬ kA = kR := by decide +kernel
theorem kAT : ¬ kA = kT := by decide +kernel
theorem kAM : ¬ kA = kM := by decide +kernel
theorem kRT : ¬ kR = kT := by decide +kernel
theorem kRM : ¬ kR = kM := by decide +kernel
theorem kTM : ¬ kT = kM := by decide +kernel
def drawDK (q : Addr) (a r t m : Int) : List (Key × SV) := [(kG, .ptr q), (kA, .dat (.int a)), (kR, .dat (.int r)), (kT, .dat (.int t)), (kM, .dat (.int m))]
section
variable {q : Addr} {a r t m z : Int}
theorem look_G : lookS (drawDK q a r t m) kG = some (.ptr q) := look_hit
theorem look_A : lookS (drawDK q a r t m) kA = some (.dat (.int a)) := (look_miss kGA).trans look_hit
theorem look_R : lookS (drawDK q a r t m) kR = some (.dat (.int r)) := (look_miss kGR).trans ((look_miss kAR).trans look_hit)
theorem look_T : lookS (drawDK q a r t m) kT = some (.dat (.int t)) := (look_miss kGT).trans ((look_miss kAT).trans ((look_miss kRT).trans look_hit))
theorem look_M : lookS (drawDK q a r t m) kM = some (.dat (.int m)) := (look_miss kGM).trans ((look_miss kAM).trans ((look_miss kRM).trans ((look_miss kTM).trans look_hit)))
theorem put_A : putS (drawDK q a r t m) kA (.dat (.int z)) = drawDK q z r t m := by
  unfold drawDK
  rw [put_miss kGA, put_hit (by simp only [List.map_cons, List.map_nil, List.mem_cons, List.not_mem_nil, or_false, not_or]; exact ⟨kAR, kAT, kAM⟩)]
theorem put_R : putS (drawDK q a r t m) kR (.dat (.int z)) = drawDK q a z t m := by
  unfold drawDK
  rw [put_miss kGR, put_miss kAR, put_hit (by simp only [List.map_cons, List.map_nil, List.mem_cons, List.not_mem_nil, or_false, not_or]; exact ⟨kRT, kRM⟩)]
theorem put_T : putS (drawDK q a r t m) kT (.dat (.int z)) = drawDK q a r z m := by
  unfold drawDK
  rw [put_miss kGT, put_miss kAT, put_miss kRT, put_hit (by simp only [List.map_cons, List.map_nil, List.mem_cons, List.not_mem_nil, or_false, not_or]; exact kTM)]
theorem put_M : putS (drawDK q a r t m) kM (.dat (.int z)) = drawDK q a r t z := by
  unfold drawDK
  rw [put_miss kGM, put_miss kAM, put_miss kRM, put_miss kTM, put_hit (by simp)]
end
theorem draw_nodup (q : Addr) (a r t m : Int) : ((drawDK q a r t m).map (·.1)).Nodup := by
  show ([kG, kA, kR, kT, kM] : List Key).Nodup
  decide +kernel
theorem five {kvs : List (Key × SV)} (h : kvs.length = 5) : kvs.length < sizeLine := by rw [h]; decide
def numsSV (ns : List Int) : List SV := ns.map fun n => .dat (.int n)
theorem nums_dats (ns : List Int) : numsSV ns = (ns.map PyData.int).map .dat := by unfold numsSV; rw [List.map_map]; rfl
theorem nums_len (ns : List Int) : (numsSV ns).length = ns.length := List.length_map _
theorem atI_nums {ns : List Int} {a : Int} (h0 : 0 ≤ a) (h1 : a < ns.length) : atI (numsSV ns) a = some (.dat (.int (ns.getD a.toNat 0))) := by
  unfold numsSV
  rw [atI_map]
  have h2 : a.toNat < ns.length := by omega
  have e : atI ns a = some (ns.getD a.toNat 0) := by
    unfold atI ixN
    rw [if_pos h0, if_pos h1]
    show ns[a.toNat]? = some (ns.getD a.toNat 0)
    rw [List.getD_eq_getElem?_getD, List.getElem?_eq_getElem h2]
    rfl
  rw [e]
  rfl
theorem ints_shapedL (ns : List Int) : SeqAt.shaped (.list (ns.map PyData.int)) = true := shaped_plain (by simp only [plainD]; exact plainA_map (fun _ => rfl) ns) (by
  have h := depthAll_le (n := 0) (xs := ns.map PyData.int) fun x hx => by
    obtain ⟨c, _, rfl⟩ := List.mem_map.mp hx
    simp [PyData.depth]
  simp only [PyData.depth]
  omega)
def drawOk (q : Addr) (ns : List Int) (cs : List Cell) : Prop := ∃ a r t m : Int, cs = [.dk (drawDK q a r t m), .lst (numsSV ns)] ∧ 0 ≤ a ∧ 0 ≤ r ∧ 0 ≤ t ∧ 0 ≤ m ∧ m < 2147483647
abbrev drawB (K : PySem.W.Frag) (p q : Addr) (ns : List Int) : Blk := Blk.of K [p, q] (drawOk q ns)
abbrev isDraw (K : PySem.W.Frag) (A : Amb) (p : Addr) : Prop := ∃ q ns, ns.length ≤ 63 ∧ A.I = drawB K p q ns

/-! ### the law's own -/
def boxC (w h : Nat) : List Cl := (List.range w).flatMap fun (i : Nat) => (List.range h).map fun (j : Nat) => ((i : Int), (j : Int))
theorem boxC_succ (w h : Nat) : boxC (w + 1) h = boxC w h ++ (List.range h).map fun (j : Nat) => ((w : Int), (j : Int)) := by
  unfold boxC
  rw [List.range_succ, List.flatMap_append]
  simp
theorem boxC_len (w h : Nat) : (boxC w h).length = w * h := by
  induction w with
  | zero => simp [boxC]
  | succ w ih => rw [boxC_succ, List.length_append, ih, List.length_map, List.length_range, Nat.succ_mul]
theorem boxC_mem {w h : Nat} {c : Cl} (hc : c ∈ boxC w h) : 0 ≤ c.1 ∧ c.1 < w ∧ 0 ≤ c.2 ∧ c.2 < h := by
  unfold boxC at hc
  obtain ⟨i, hi, hc⟩ := List.mem_flatMap.mp hc
  obtain ⟨j, hj, rfl⟩ := List.mem_map.mp hc
  have := List.mem_range.mp hi
  have := List.mem_range.mp hj
  refine ⟨?_, ?_, ?_, ?_⟩ <;> simp only <;> omega
theorem box_small {w h : Nat} (hw : w ≤ 7) (hh : h ≤ 7) : w * h ≤ 49 := Nat.le_trans (Nat.mul_le_mul hw hh) (by decide)
structure Region (cs : List Cl) : Prop where
  ne : cs ≠ []
  len : cs.length ≤ 49
  lo : ∀ c ∈ cs, 0 ≤ c.1 ∧ c.1 ≤ 6 ∧ 0 ≤ c.2 ∧ c.2 ≤ 6
def around (c : Cl) : List (Cl × Cl × Cl) := [((c.1, c.2), (c.1 + 1, c.2), (c.1, c.2 - 1)), ((c.1 + 1, c.2), (c.1 + 1, c.2 + 1), (c.1 + 1, c.2)), ((c.1 + 1, c.2 + 1), (c.1, c.2 + 1), (c.1, c.2 + 1)), ((c.1, c.2 + 1), (c.1, c.2), (c.1 - 1, c.2))]
def lawpre (cs ds : List Cl) : List Sd := cs.flatMap fun c => ((around c).filter fun t => decide (¬ t.2.2 ∈ ds)).map fun t => (t.1, t.2.1)
theorem around_right (c : Cl) : ∀ t ∈ around c, rightOf (t.1, t.2.1) = t.2.2 := by
  intro t ht
  simp only [around, List.mem_cons, List.not_mem_nil, or_false] at ht
  have n1 : ∀ a b : Int, ((a, b) : Cl) = (1, 0) ↔ a = 1 ∧ b = 0 := fun a b => by rw [Prod.mk.injEq]
  have n2 : ∀ a b : Int, ((a, b) : Cl) = (0, 1) ↔ a = 0 ∧ b = 1 := fun a b => by rw [Prod.mk.injEq]
  have n3 : ∀ a b : Int, ((a, b) : Cl) = (-1, 0) ↔ a = -1 ∧ b = 0 := fun a b => by rw [Prod.mk.injEq]
  rcases ht with rfl | rfl | rfl | rfl <;> simp only [rightOf, leftOf, going, n1, n2, n3]
  · rw [if_neg (by omega), if_neg (by omega), if_pos (by omega)]
    exact Prod.ext (by simp only; omega) rfl
  · rw [if_neg (by omega), if_neg (by omega), if_neg (by omega)]
    exact Prod.ext rfl (by simp only; omega)
  · rw [if_pos (by omega)]
  · rw [if_neg (by omega), if_pos (by omega)]
theorem around_perm (c : Cl) : (roundCell c).Perm ((around c).map fun t => (t.1, t.2.1)) := by
  show List.Perm _ [_, _, _, _]
  exact (List.perm_append_comm (l₁ := [((c.1, c.2 + 1), (c.1, c.2))]) (l₂ := [((c.1, c.2), (c.1 + 1, c.2)), ((c.1 + 1, c.2), (c.1 + 1, c.2 + 1)), ((c.1 + 1, c.2 + 1), (c.1, c.2 + 1))]))
theorem filter_round (c : Cl) (p : Cl → Bool) : ((roundCell c).filter fun s => p (rightOf s)).Perm (((around c).filter fun t => p t.2.2).map fun t => (t.1, t.2.1)) := by
  have h1 : ((around c).filter fun t => p t.2.2) = (around c).filter fun t => p (rightOf (t.1, t.2.1)) := List.filter_congr fun t ht => by rw [around_right c t ht]
  rw [h1]
  have h2 := (around_perm c).filter fun s => p (rightOf s)
  rw [List.filter_map] at h2
  exact h2
theorem flat_perm {α β : Type} (f g : α → List β) : ∀ l : List α, (∀ x ∈ l, (f x).Perm (g x)) → (l.flatMap f).Perm (l.flatMap g)
  | [], _ => by simp
  | x :: l, h => by
    rw [List.flatMap_cons, List.flatMap_cons]
    exact (h x List.mem_cons_self).append (flat_perm f g l fun y hy => h y (List.mem_cons_of_mem _ hy))
theorem pre_perm (cs : List Cl) : (presides cs).Perm (lawpre cs cs) := flat_perm _ _ cs fun c _ => filter_round c fun r => decide (¬ r ∈ cs)
theorem sides_eq (cs : List Cl) : sidesD cs = dsort ((lawpre cs cs).map sD) := dsort_eq ((pre_perm cs).map sD) (sides_alike _) (sides_plain _)
theorem presides_len (cs : List Cl) : (presides cs).length ≤ cs.length * 4 := by
  have aux : ∀ (ds l : List Cl), (l.flatMap fun c => (roundCell c).filter fun s => decide (¬ rightOf s ∈ ds)).length ≤ l.length * 4 := by
    intro ds l
    induction l with
    | nil => simp
    | cons x l ih =>
      rw [List.flatMap_cons, List.length_append, List.length_cons, Nat.succ_mul]
      have h := List.length_filter_le (fun s => decide (¬ rightOf s ∈ ds)) (roundCell x)
      have h2 : (roundCell x).length = 4 := rfl
      omega
  exact aux cs cs
theorem lawpre_len (cs ds : List Cl) : (lawpre cs ds).length ≤ cs.length * 4 := by
  unfold lawpre
  induction cs with
  | nil => simp
  | cons x l ih =>
    rw [List.flatMap_cons, List.length_append, List.length_cons, Nat.succ_mul, List.length_map]
    have h := List.length_filter_le (fun t : Cl × Cl × Cl => decide (¬ t.2.2 ∈ ds)) (around x)
    have h2 : (around x).length = 4 := rfl
    omega
theorem lawpre_take (cs ds : List Cl) {i : Nat} {c : Cl} (h : cs[i]? = some c) : lawpre (cs.take (i + 1)) ds = lawpre (cs.take i) ds ++ ((around c).filter fun t => decide (¬ t.2.2 ∈ ds)).map fun t => (t.1, t.2.1) := by
  unfold lawpre
  rw [List.take_add_one, h, List.flatMap_append]
  simp
theorem lawpre_small {cs ds : List Cl} (h : ∀ c ∈ cs, 0 ≤ c.1 ∧ c.1 ≤ 6 ∧ 0 ≤ c.2 ∧ c.2 ≤ 6) : ∀ s ∈ lawpre cs ds, (0 ≤ s.1.1 ∧ s.1.1 ≤ 7) ∧ (0 ≤ s.1.2 ∧ s.1.2 ≤ 7) ∧ (0 ≤ s.2.1 ∧ s.2.1 ≤ 7) ∧ (0 ≤ s.2.2 ∧ s.2.2 ≤ 7) := by
  intro s hs
  unfold lawpre at hs
  obtain ⟨c, hc, hs⟩ := List.mem_flatMap.mp hs
  obtain ⟨t, ht, rfl⟩ := List.mem_map.mp hs
  have ht := (List.mem_filter.mp ht).1
  have hb := h c hc
  simp only [around, List.mem_cons, List.not_mem_nil, or_false] at ht
  rcases ht with rfl | rfl | rfl | rfl <;> refine ⟨?_, ?_, ?_, ?_⟩ <;> simp only <;> omega
/-! ### how long they are told -/
def smallC (c : Cl) : Prop := c.1.natAbs < 100 ∧ c.2.natAbs < 100
theorem cD_small {c : Cl} (h : smallC c) : smallD (cD c) = true := by
  simp only [cD, smallD, smallA, Bool.and_true, Bool.and_eq_true, decide_eq_true_eq]
  have := h.1
  have := h.2
  constructor <;> omega
theorem cD_wt (c : Cl) : wtD (cD c) = 29 := by simp [cD, wtD, wtA]
theorem sD_wt (s : Sd) : wtD (sD s) = 65 := by simp [sD, wtD, wtA, cD_wt]
theorem sD_small {s : Sd} (h1 : smallC s.1) (h2 : smallC s.2) : smallD (sD s) = true := by simp [sD, smallD, smallA, cD_small h1, cD_small h2]
theorem cells_small {cs : List Cl} (h : Region cs) : smallD (.tuple (cs.map cD)) = true ∧ wtD (.tuple (cs.map cD)) ≤ 1000000 ∧ (PyData.tuple (cs.map cD)).depth ≤ 60 := by
  refine ⟨?_, ?_, ?_⟩
  · simp only [smallD]
    refine smallA_mem.mpr fun x hx => ?_
    obtain ⟨c, hc, rfl⟩ := List.mem_map.mp hx
    have := h.lo c hc
    exact cD_small ⟨by omega, by omega⟩
  · have h1 := wtA_le (n := 29) (xs := cs.map cD) fun x hx => by
      obtain ⟨c, hc, rfl⟩ := List.mem_map.mp hx
      rw [cD_wt]
      exact Nat.le_refl _
    have h2 := h.len
    rw [List.length_map] at h1
    simp only [wtD]
    omega
  · have h1 := depthAll_map cD_depth cs
    simp only [PyData.depth]
    omega
theorem sidesD_mem {l : List Sd} {d : PyData} (h : d ∈ dsort (l.map sD)) : ∃ s ∈ l, d = sD s := by
  obtain ⟨s, hs, rfl⟩ := List.mem_map.mp ((dsort_perm _).mem_iff.mp h)
  exact ⟨s, hs, rfl⟩
theorem sorted_small {l : List Sd} (hl : l.length ≤ 2000) (h : ∀ s ∈ l, smallC s.1 ∧ smallC s.2) : smallA (dsort (l.map sD)) = true ∧ wtA (dsort (l.map sD)) ≤ 900000 ∧ PyData.depthAll (dsort (l.map sD)) ≤ 50 := by
  refine ⟨?_, ?_, ?_⟩
  · refine smallA_mem.mpr fun x hx => ?_
    obtain ⟨s, hs, rfl⟩ := sidesD_mem hx
    exact sD_small (h s hs).1 (h s hs).2
  · have h1 := wtA_le (n := 65) (xs := dsort (l.map sD)) fun x hx => by
      obtain ⟨s, hs, rfl⟩ := sidesD_mem hx
      rw [sD_wt]
      exact Nat.le_refl _
    rw [(dsort_perm _).length_eq, List.length_map] at h1
    omega
  · exact Nat.le_trans (depthAll_le (n := 2) fun x hx => by
      obtain ⟨s, hs, rfl⟩ := sidesD_mem hx
      exact sD_depth s) (by decide)
theorem law_small {cs : List Cl} (h : Region cs) : smallA (sidesD cs) = true ∧ wtA (sidesD cs) ≤ 900000 ∧ PyData.depthAll (sidesD cs) ≤ 50 := by
  rw [sides_eq]
  refine sorted_small ?_ fun s hs => ?_
  · have := lawpre_len cs cs
    have := h.len
    omega
  · have := lawpre_small h.lo s hs
    exact ⟨⟨by omega, by omega⟩, by omega, by omega⟩

theorem csD_plain (l : List Cl) : plainD (.tuple (l.map cD)) = true := by
  simp only [plainD]
  exact plainA_map cD_plain l
theorem csD_inj (a b : List Cl) (h : PyData.tuple (a.map cD) = .tuple (b.map cD)) : a = b := by
  simp only [PyData.tuple.injEq] at h
  induction a generalizing b with
  | nil => cases b with
    | nil => rfl
    | cons _ _ => cases h
  | cons x a ih => cases b with
    | nil => cases h
    | cons y b =>
      simp only [List.map_cons, List.cons.injEq] at h
      rw [cD_inj _ _ h.1, ih _ h.2]
theorem eq_cells (a b : List Cl) : PyData.eqv (.tuple (a.map cD)) (.tuple (b.map cD)) = decide (a = b) := eqv_enc (f := fun l : List Cl => .tuple (l.map cD)) csD_plain csD_inj a b
/-! ### sides of some cells, by what is right of them -/
def leS (a b : Sd) : Bool := PySem.W.dataLe false id (sD a) (sD b)
def sortS (l : List Sd) : List Sd := l.mergeSort leS
theorem sortS_map (l : List Sd) : (sortS l).map sD = dsort (l.map sD) := List.map_mergeSort fun a _ b _ => rfl
theorem map_sD_inj {l m : List Sd} (h : l.map sD = m.map sD) : l = m := by
  induction l generalizing m with
  | nil => cases m with
    | nil => rfl
    | cons _ _ => cases h
  | cons x l ih => cases m with
    | nil => cases h
    | cons y m =>
      simp only [List.map_cons, List.cons.injEq] at h
      rw [sD_inj _ _ h.1, ih h.2]
theorem sortS_eq {l m : List Sd} (p : l.Perm m) : sortS l = sortS m := map_sD_inj (by rw [sortS_map, sortS_map]; exact dsort_eq (p.map sD) (sides_alike _) (sides_plain _))
theorem sortS_perm (l : List Sd) : (sortS l).Perm l := List.mergeSort_perm _ _
theorem sortS_pair (l : List Sd) : (sortS l).Pairwise fun a b => leS a b = true := by
  have h := dsort_pair (l.map sD)
  rw [← sortS_map, List.pairwise_map] at h
  exact h
theorem sortS_fix {l : List Sd} (h : l.Pairwise fun a b => leS a b = true) : sortS l = l := List.mergeSort_of_pairwise h
theorem sortS_filter (l : List Sd) (p : Sd → Bool) : (sortS l).filter p = sortS (l.filter p) := by
  rw [← sortS_eq ((sortS_perm l).filter p)]
  exact (sortS_fix ((sortS_pair l).sublist List.filter_sublist)).symm
theorem sdsT_shaped (l : List Sd) : SeqAt.shaped (.tuple (l.map sD)) = true := shaped_plain (by simp only [plainD]; exact plainA_map sD_plain l) (by
  have h := depthAll_map sD_depth l
  simp only [PyData.depth]
  omega)
theorem sdsL_shaped (l : List Sd) : SeqAt.shaped (.list (l.map sD)) = true := shaped_plain (by simp only [plainD]; exact plainA_map sD_plain l) (by
  have h := depthAll_map sD_depth l
  simp only [PyData.depth]
  omega)
theorem ni_cells (cs : List Cl) (c : Cl) : (!(cs.map cD).any fun z => PyData.eqv z (cD c)) = decide (¬ c ∈ cs) := by rw [in_cells, decide_not]
theorem in_sides (l : List Sd) (s : Sd) : (l.map sD).any (fun z => PyData.eqv z (sD s)) = decide (s ∈ l) := by rw [any_enc sD_plain sD_inj]; congr
theorem eq_sides (l m : List Sd) : PyData.eqv (.list (l.map sD)) (.list (m.map sD)) = decide (l = m) := eqv_enc (f := fun l : List Sd => .list (l.map sD)) (fun l => by simp only [plainD]; exact plainA_map sD_plain l) (fun a b h => map_sD_inj (by simpa using h)) l m
theorem sds_small {l : List Sd} (hl : l.length ≤ 2000) (h : ∀ s ∈ l, smallC s.1 ∧ smallC s.2) : smallA ((sortS l).map sD) = true ∧ wtA ((sortS l).map sD) ≤ 900000 ∧ PyData.depthAll ((sortS l).map sD) ≤ 50 := by
  rw [sortS_map]
  exact sorted_small hl h
def sidesP (cs : List Cl) (p : Cl → Bool) : List Sd := cs.flatMap fun c => ((around c).filter fun t => p t.2.2).map fun t => (t.1, t.2.1)
theorem lawpre_P (cs ds : List Cl) : lawpre cs ds = sidesP cs fun r => decide (¬ r ∈ ds) := rfl
theorem presides_filter (cs : List Cl) (p : Cl → Bool) : ((presides cs).filter fun s => p (rightOf s)).Perm (sidesP cs fun r => decide (¬ r ∈ cs) && p r) := by
  unfold presides
  rw [List.filter_flatMap]
  refine flat_perm _ _ cs fun c _ => ?_
  rw [List.filter_filter]
  have h := filter_round c fun r => decide (¬ r ∈ cs) && p r
  refine List.Perm.trans (List.Perm.of_eq ?_) h
  exact List.filter_congr fun s _ => by rw [Bool.and_comm]
theorem sidesP_congr {cs : List Cl} {p q : Cl → Bool} (h : ∀ r, p r = q r) : sidesP cs p = sidesP cs q := by rw [funext h]
theorem filter_two {α : Type} (p q : α → Bool) (hx : ∀ x, p x = true → q x = true → False) : ∀ l : List α, (l.filter p ++ l.filter q).Perm (l.filter fun x => p x || q x)
  | [] => by simp
  | x :: l => by
    have ih := filter_two p q hx l
    cases hp : p x <;> cases hq : q x
    · simp only [List.filter_cons, hp, hq, Bool.or_self, Bool.false_eq_true, if_false]
      exact ih
    · simp only [List.filter_cons, hp, hq, Bool.or_true, Bool.false_eq_true, if_false, if_true]
      exact List.perm_middle.trans (ih.cons x)
    · simp only [List.filter_cons, hp, hq, Bool.or_false, Bool.false_eq_true, if_false, if_true, List.cons_append]
      exact ih.cons x
    · exact absurd hq (by simpa using hx x hp)
theorem flat_two {α β : Type} (f g : α → List β) : ∀ l : List α, (l.flatMap f ++ l.flatMap g).Perm (l.flatMap fun x => f x ++ g x)
  | [] => by simp
  | x :: l => by
    have ih := flat_two f g l
    simp only [List.flatMap_cons]
    have h1 : (f x ++ l.flatMap f ++ (g x ++ l.flatMap g)).Perm (f x ++ g x ++ (l.flatMap f ++ l.flatMap g)) := by
      rw [List.append_assoc, List.append_assoc]
      refine List.Perm.append_left _ ?_
      rw [← List.append_assoc, ← List.append_assoc]
      exact List.Perm.append_right _ List.perm_append_comm
    exact h1.trans (ih.append_left _)
theorem sidesP_two (cs : List Cl) (p q : Cl → Bool) (hx : ∀ r, p r = true → q r = true → False) : (sidesP cs p ++ sidesP cs q).Perm (sidesP cs fun r => p r || q r) := by
  unfold sidesP
  refine (flat_two _ _ cs).trans (flat_perm _ _ cs fun c _ => ?_)
  rw [← List.map_append]
  exact (filter_two (fun t : Cl × Cl × Cl => p t.2.2) (fun t => q t.2.2) (fun t => hx t.2.2) (around c)).map _
theorem sidesP_len (cs : List Cl) (p : Cl → Bool) : (sidesP cs p).length ≤ cs.length * 4 := by
  unfold sidesP
  induction cs with
  | nil => simp
  | cons x l ih =>
    rw [List.flatMap_cons, List.length_append, List.length_cons, Nat.succ_mul, List.length_map]
    have h := List.length_filter_le (fun t : Cl × Cl × Cl => p t.2.2) (around x)
    have h2 : (around x).length = 4 := rfl
    omega
theorem sidesP_take (cs : List Cl) (p : Cl → Bool) {i : Nat} {c : Cl} (h : cs[i]? = some c) : sidesP (cs.take (i + 1)) p = sidesP (cs.take i) p ++ ((around c).filter fun t => p t.2.2).map fun t => (t.1, t.2.1) := by
  unfold sidesP
  rw [List.take_add_one, h, List.flatMap_append]
  simp
theorem sidesP_small {cs : List Cl} {p : Cl → Bool} (h : ∀ c ∈ cs, 0 ≤ c.1 ∧ c.1 ≤ 6 ∧ 0 ≤ c.2 ∧ c.2 ≤ 6) : ∀ s ∈ sidesP cs p, (0 ≤ s.1.1 ∧ s.1.1 ≤ 7) ∧ (0 ≤ s.1.2 ∧ s.1.2 ≤ 7) ∧ (0 ≤ s.2.1 ∧ s.2.1 ≤ 7) ∧ (0 ≤ s.2.2 ∧ s.2.2 ≤ 7) := by
  intro s hs
  unfold sidesP at hs
  obtain ⟨c, hc, hs⟩ := List.mem_flatMap.mp hs
  obtain ⟨t, ht, rfl⟩ := List.mem_map.mp hs
  have ht := (List.mem_filter.mp ht).1
  have hb := h c hc
  simp only [around, List.mem_cons, List.not_mem_nil, or_false] at ht
  rcases ht with rfl | rfl | rfl | rfl <;> refine ⟨?_, ?_, ?_, ?_⟩ <;> simp only <;> omega
/-! ### which they are -/
def Unit1 (s : Sd) : Prop := going s = (1, 0) ∨ going s = (0, 1) ∨ going s = (-1, 0) ∨ going s = (0, -1)
theorem cl2 (a b x y : Int) : ((a, b) : Cl) = (x, y) ↔ a = x ∧ b = y := by rw [Prod.mk.injEq]
theorem around_unit (c : Cl) : ∀ t ∈ around c, Unit1 (t.1, t.2.1) ∧ leftOf (t.1, t.2.1) = c ∧ rightOf (t.1, t.2.1) = t.2.2 := by
  intro t ht
  refine ⟨?_, ?_, around_right c t ht⟩
  · simp only [around, List.mem_cons, List.not_mem_nil, or_false] at ht
    rcases ht with rfl | rfl | rfl | rfl <;> simp only [Unit1, going, cl2] <;> omega
  · simp only [around, List.mem_cons, List.not_mem_nil, or_false] at ht
    rcases ht with rfl | rfl | rfl | rfl <;> simp only [leftOf, going, cl2]
    · rw [if_pos (by omega)]
    · rw [if_neg (by omega), if_pos (by omega)]
      exact Prod.ext (by simp only; omega) rfl
    · rw [if_neg (by omega), if_neg (by omega), if_pos (by omega)]
      exact Prod.ext (by simp only; omega) (by simp only; omega)
    · rw [if_neg (by omega), if_neg (by omega), if_neg (by omega)]
      exact Prod.ext rfl (by simp only; omega)
theorem unit_around {s : Sd} (h : Unit1 s) : ∃ t ∈ around (leftOf s), s = (t.1, t.2.1) := by
  obtain ⟨⟨a, b⟩, ⟨c, d⟩⟩ := s
  simp only [Unit1, going, cl2] at h
  rcases h with h | h | h | h
  · refine ⟨((a, b), (a + 1, b), (a, b - 1)), ?_, ?_⟩
    · simp only [leftOf, going, cl2]
      rw [if_pos (by omega)]
      simp [around]
    · simp only [Prod.mk.injEq, true_and]; omega
  · refine ⟨((a, b), (a, b + 1), (a, b)), ?_, ?_⟩
    · simp only [leftOf, going, cl2]
      rw [if_neg (by omega), if_pos (by omega)]
      simp only [around, List.mem_cons, Prod.mk.injEq, and_true, true_and]
      right; left; omega
    · simp only [Prod.mk.injEq, true_and]; omega
  · refine ⟨((a, b), (a - 1, b), (a - 1, b)), ?_, ?_⟩
    · simp only [leftOf, going, cl2]
      rw [if_neg (by omega), if_neg (by omega), if_pos (by omega)]
      simp only [around, List.mem_cons, Prod.mk.injEq, and_true, true_and]
      right; right; left; omega
    · simp only [Prod.mk.injEq, true_and]; omega
  · refine ⟨((a, b), (a, b - 1), (a - 1, b - 1)), ?_, ?_⟩
    · simp only [leftOf, going, cl2]
      rw [if_neg (by omega), if_neg (by omega), if_neg (by omega)]
      simp only [around, List.mem_cons, Prod.mk.injEq, and_true, true_and]
      right; right; right; left; omega
    · simp only [Prod.mk.injEq, true_and]; omega
theorem mem_sidesP {cs : List Cl} {p : Cl → Bool} {s : Sd} : s ∈ sidesP cs p ↔ Unit1 s ∧ leftOf s ∈ cs ∧ p (rightOf s) = true := by
  unfold sidesP
  rw [List.mem_flatMap]
  constructor
  · rintro ⟨c, hc, hs⟩
    obtain ⟨t, ht, rfl⟩ := List.mem_map.mp hs
    obtain ⟨ht, hp⟩ := List.mem_filter.mp ht
    obtain ⟨h1, h2, h3⟩ := around_unit c t ht
    exact ⟨h1, by rw [h2]; exact hc, by rw [h3]; exact hp⟩
  · rintro ⟨h1, h2, h3⟩
    obtain ⟨t, ht, e⟩ := unit_around h1
    refine ⟨_, h2, List.mem_map.mpr ⟨t, List.mem_filter.mpr ⟨ht, ?_⟩, e.symm⟩⟩
    rw [e, around_right _ t ht] at h3
    exact h3
theorem around_nodup (c : Cl) : ((around c).map fun t => (t.1, t.2.1)).Nodup := by
  simp only [around, List.map_cons, List.map_nil, List.nodup_cons, List.mem_cons, List.not_mem_nil, or_false, Prod.mk.injEq, not_false_eq_true, List.nodup_nil, and_true, not_or]
  omega
theorem sidesP_nodup {cs : List Cl} (h : cs.Nodup) (p : Cl → Bool) : (sidesP cs p).Nodup := by
  unfold sidesP
  refine List.pairwise_flatMap.mpr ⟨fun c _ => ?_, ?_⟩
  · exact (around_nodup c).sublist (List.filter_sublist.map _)
  · refine List.Pairwise.imp ?_ h
    intro a b hab x hx y hy e
    obtain ⟨t, ht, rfl⟩ := List.mem_map.mp hx
    obtain ⟨u, hu, rfl⟩ := List.mem_map.mp hy
    have h1 := (around_unit a t (List.mem_filter.mp ht).1).2.1
    have h2 := (around_unit b u (List.mem_filter.mp hu).1).2.1
    rw [e] at h1
    exact hab (h1.symm.trans h2)
def flipS (s : Sd) : Sd := (s.2, s.1)
theorem unit_flip {s : Sd} (h : Unit1 s) : Unit1 (flipS s) := by
  obtain ⟨⟨a, b⟩, ⟨c, d⟩⟩ := s
  simp only [Unit1, going, cl2, flipS] at h ⊢
  omega
theorem flip_flip (s : Sd) : flipS (flipS s) = s := rfl
theorem rightOf_flip (s : Sd) : rightOf (flipS s) = leftOf s := rfl
theorem leftOf_flip (s : Sd) : leftOf (flipS s) = rightOf s := rfl
theorem sidesP_flip {cs ds : List Cl} (h1 : cs.Nodup) (h2 : ds.Nodup) : ((sidesP cs fun r => decide (r ∈ ds)).map flipS).Perm (sidesP ds fun r => decide (r ∈ cs)) := by
  refine (List.perm_ext_iff_of_nodup ?_ (sidesP_nodup h2 _)).mpr fun s => ?_
  · exact List.Pairwise.map _ (fun a b hab e => hab (by rw [← flip_flip a, e, flip_flip])) (sidesP_nodup h1 _)
  · rw [List.mem_map, mem_sidesP]
    constructor
    · rintro ⟨a, ha, rfl⟩
      obtain ⟨h1, h2, h3⟩ := mem_sidesP.mp ha
      exact ⟨unit_flip h1, by rw [leftOf_flip]; simpa using h3, by rw [rightOf_flip]; exact decide_eq_true h2⟩
    · rintro ⟨h1, h2, h3⟩
      refine ⟨flipS s, mem_sidesP.mpr ⟨unit_flip h1, ?_, ?_⟩, rfl⟩
      · rw [leftOf_flip]; simpa using h3
      · rw [rightOf_flip]; simpa using h2

structure Parted (w h : Nat) (lots : List (List Cl)) : Prop where
  len : lots.length ≤ 4
  ne : ∀ l ∈ lots, l ≠ []
  nd : ∀ l ∈ lots, l.Nodup
  sm : ∀ l ∈ lots, l.length ≤ 49
  sub : ∀ l ∈ lots, ∀ c ∈ l, c ∈ boxC w h
  uniq : lots.Nodup
  dis : ∀ l ∈ lots, ∀ m ∈ lots, ∀ c, c ∈ l → c ∈ m → l = m
theorem boxC_nodup (w h : Nat) : (boxC w h).Nodup := by
  refine List.pairwise_flatMap.mpr ⟨fun i _ => ?_, ?_⟩
  · exact List.Pairwise.map _ (fun a b hab e => hab (by simp only [Prod.mk.injEq] at e; omega)) List.nodup_range
  · refine List.Pairwise.imp ?_ (List.nodup_range (n := w))
    intro a b hab x hx y hy e
    obtain ⟨i, _, rfl⟩ := List.mem_map.mp hx
    obtain ⟨j, _, rfl⟩ := List.mem_map.mp hy
    simp only [Prod.mk.injEq] at e
    omega
def picks (bs : List Cl) (ms : List Int) (m : Int) : List Cl := ((List.range bs.length).filter fun k => decide (ms.getD k 0 = m)).map fun k => bs.getD k (0, 0)
theorem getD_nth {bs : List Cl} {k : Nat} (h : k < bs.length) : bs[k]? = some (bs.getD k (0, 0)) := by
  rw [List.getD_eq_getElem?_getD, List.getElem?_eq_getElem h]
  rfl
theorem picks_mem {bs : List Cl} {ms : List Int} {m : Int} {c : Cl} (h : c ∈ picks bs ms m) : ∃ k, k < bs.length ∧ ms.getD k 0 = m ∧ bs[k]? = some c := by
  obtain ⟨k, hk, rfl⟩ := List.mem_map.mp h
  obtain ⟨h1, h2⟩ := List.mem_filter.mp hk
  have h1 := List.mem_range.mp h1
  exact ⟨k, h1, of_decide_eq_true h2, getD_nth h1⟩
theorem _root_.List.Nodup.take_ne {α : Type} {l : List α} (hn : l.Nodup) {j : Nat} {x y : α} (hj : l[j]? = some x) (hy : y ∈ l.take j) : y ≠ x := by
  rintro rfl
  obtain ⟨i, hi⟩ := List.getElem?_of_mem hy
  rw [List.getElem?_take] at hi
  split at hi
  · rename_i hlt
    have := (List.getElem?_inj (List.getElem?_eq_some_iff.mp hi).1 hn).mp (hi.trans hj.symm)
    omega
  · cases hi
theorem nodup_get {bs : List Cl} (h : bs.Nodup) {i j : Nat} {c : Cl} (hi : bs[i]? = some c) (hj : bs[j]? = some c) : i = j := by
  obtain ⟨i1, e1⟩ := List.getElem?_eq_some_iff.mp hi
  obtain ⟨j1, e2⟩ := List.getElem?_eq_some_iff.mp hj
  exact (List.getElem?_inj i1 h).mp (hi.trans hj.symm)
theorem picks_parted {w h : Nat} (hw : w ≤ 7) (hh : h ≤ 7) (ms : List Int) (n : Nat) (hn : n ≤ 4) : Parted w h (((List.range n).map fun (m : Nat) => picks (boxC w h) ms (0 + (m : Int))).filter fun l => decide (¬ l = [])) where
  len := Nat.le_trans (List.length_filter_le _ _) (by rw [List.length_map, List.length_range]; exact hn)
  ne := fun l hl => of_decide_eq_true (List.mem_filter.mp hl).2
  nd := fun l hl => by
    obtain ⟨m, _, rfl⟩ := List.mem_map.mp (List.mem_filter.mp hl).1
    refine List.Pairwise.map (R := fun a b : Nat => a ≠ b ∧ a < (boxC w h).length ∧ b < (boxC w h).length) _ (fun a b hab e => hab.1 (nodup_get (boxC_nodup w h) (getD_nth hab.2.1) (by rw [e]; exact getD_nth hab.2.2))) ?_
    have h1 : ((List.range (boxC w h).length).filter fun k => decide (ms.getD k 0 = 0 + (m : Int))).Nodup := List.nodup_range.sublist List.filter_sublist
    refine List.Pairwise.imp_of_mem ?_ h1
    intro a b ha hb hab
    exact ⟨hab, List.mem_range.mp (List.mem_filter.mp ha).1, List.mem_range.mp (List.mem_filter.mp hb).1⟩
  sm := fun l hl => by
    obtain ⟨m, _, rfl⟩ := List.mem_map.mp (List.mem_filter.mp hl).1
    unfold picks
    rw [List.length_map]
    refine Nat.le_trans (List.length_filter_le _ _) ?_
    rw [List.length_range, boxC_len]
    exact box_small hw hh
  sub := fun l hl c hc => by
    obtain ⟨m, _, rfl⟩ := List.mem_map.mp (List.mem_filter.mp hl).1
    obtain ⟨k, _, _, e⟩ := picks_mem hc
    exact List.mem_of_getElem? e
  uniq := by
    refine List.pairwise_filter.mpr (List.pairwise_map.mpr (List.Pairwise.imp ?_ List.nodup_range))
    intro a b hab h1 _ e
    obtain ⟨c, r, e2⟩ := List.exists_cons_of_ne_nil (of_decide_eq_true h1)
    have hc : c ∈ picks (boxC w h) ms (0 + (a : Int)) := by rw [e2]; exact List.mem_cons_self
    obtain ⟨k, _, h2, e3⟩ := picks_mem hc
    rw [e] at hc
    obtain ⟨k', _, h3, e4⟩ := picks_mem hc
    have := nodup_get (boxC_nodup w h) e3 e4
    subst this
    omega
  dis := fun l hl l' hl' c hc hc' => by
    obtain ⟨m, _, rfl⟩ := List.mem_map.mp (List.mem_filter.mp hl).1
    obtain ⟨m', _, rfl⟩ := List.mem_map.mp (List.mem_filter.mp hl').1
    obtain ⟨k, _, h1, e⟩ := picks_mem hc
    obtain ⟨k', _, h1', e'⟩ := picks_mem hc'
    have := nodup_get (boxC_nodup w h) e e'
    subst this
    rw [← h1, ← h1']
theorem lots_sum {w h : Nat} {lots : List (List Cl)} (P : Parted w h lots) : ((lots.map fun l => l.map cD).map List.length).sum ≤ 196 := by
  have aux : ∀ ls : List (List Cl), (∀ l ∈ ls, l.length ≤ 49) → ((ls.map fun l => l.map cD).map List.length).sum ≤ ls.length * 49 := by
    intro ls h
    induction ls with
    | nil => simp
    | cons x ls ih =>
      have h1 := ih fun l hl => h l (List.mem_cons_of_mem _ hl)
      have h2 := h x List.mem_cons_self
      simp only [List.map_cons, List.sum_cons, List.length_map, List.length_cons, Nat.succ_mul] at *
      omega
  have h1 := aux lots P.sm
  have h2 := P.len
  omega
/-! the sums -/
def freeC (w h : Nat) (lots : List (List Cl)) : List Cl := (boxC w h).filter fun c => decide (¬ c ∈ lots.flatten)
def inSome (w h : Nat) (lots some : List (List Cl)) (first : List Cl) (r : Cl) : Bool := decide (¬ r ∈ boxC w h) || decide (r ∈ freeC w h lots) || decide (∃ l ∈ some, l ≠ first ∧ r ∈ l)
section
variable {w h : Nat} {lots : List (List Cl)} {first : List Cl}
theorem beyond_eq (P : Parted w h lots) (hf : first ∈ lots) : ((sortS (lawpre first first)).filter fun s => decide (s ∈ sortS (lawpre (boxC w h) (boxC w h)))).Perm (sidesP first fun r => decide (¬ r ∈ boxC w h)) := by
  refine ((sortS_perm _).filter _).trans ?_
  rw [lawpre_P, lawpre_P]
  have e : ∀ s ∈ sidesP first fun r => decide (¬ r ∈ first), decide (s ∈ sortS (sidesP (boxC w h) fun r => decide (¬ r ∈ boxC w h))) = decide (¬ rightOf s ∈ boxC w h) := fun s hs => by
    rw [decide_eq_decide, (sortS_perm _).mem_iff, mem_sidesP]
    obtain ⟨h1, h2, h3⟩ := mem_sidesP.mp hs
    exact ⟨fun h => by simpa using h.2.2, fun h => ⟨h1, P.sub _ hf _ h2, by simpa using h⟩⟩
  rw [List.filter_congr e]
  refine (List.perm_ext_iff_of_nodup ((sidesP_nodup (P.nd _ hf) _).sublist List.filter_sublist) (sidesP_nodup (P.nd _ hf) _)).mpr fun s => ?_
  rw [List.mem_filter, mem_sidesP, mem_sidesP]
  constructor
  · rintro ⟨⟨h1, h2, h3⟩, h4⟩
    exact ⟨h1, h2, h4⟩
  · rintro ⟨h1, h2, h3⟩
    refine ⟨⟨h1, h2, ?_⟩, h3⟩
    refine decide_eq_true fun h5 => ?_
    exact of_decide_eq_true h3 (P.sub _ hf _ h5)
theorem between_eq (P : Parted w h lots) (hf : first ∈ lots) {last : List Cl} (hl : last ∈ lots) (hne : last ≠ first) : ((sortS (presides first)).filter fun s => decide (rightOf s ∈ last)) = sortS (sidesP first fun r => decide (r ∈ last)) := by
  rw [sortS_filter]
  refine sortS_eq ((presides_filter first fun r => decide (r ∈ last)).trans (List.Perm.of_eq (sidesP_congr fun r => ?_)))
  by_cases hr : r ∈ last
  · have h2 : ¬ r ∈ first := fun h3 => hne (P.dis _ hl _ hf r hr h3)
    simp [hr, h2]
  · simp [hr]
theorem back_eq (P : Parted w h lots) (hf : first ∈ lots) {last : List Cl} (hl : last ∈ lots) (hne : last ≠ first) : sortS ((((sortS (presides last)).filter fun s => decide (rightOf s ∈ first))).map flipS) = sortS (sidesP first fun r => decide (r ∈ last)) := by
  rw [between_eq P hl hf (Ne.symm hne)]
  exact sortS_eq (((sortS_perm _).map flipS).trans (sidesP_flip (P.nd _ hl) (P.nd _ hf)))
theorem sum_start (P : Parted w h lots) (hf : first ∈ lots) : (((sortS (lawpre first first)).filter fun s => decide (s ∈ sortS (lawpre (boxC w h) (boxC w h)))) ++ sortS (sidesP first fun r => decide (r ∈ freeC w h lots))).Perm (sidesP first (inSome w h lots (lots.take 0) first)) := by
  refine ((beyond_eq P hf).append (sortS_perm _)).trans ((sidesP_two first _ _ fun r h1 h2 => ?_).trans (List.Perm.of_eq (sidesP_congr fun r => ?_)))
  · exact of_decide_eq_true h1 (List.mem_filter.mp (of_decide_eq_true h2)).1
  · simp [inSome]
theorem first_small (P : Parted w h lots) (h1 : w ≤ 7) (h2 : h ≤ 7) (hf : first ∈ lots) (p : Cl → Bool) : ∀ s ∈ sidesP first p, smallC s.1 ∧ smallC s.2 := fun s hs => by
  have := sidesP_small (cs := first) (p := p) (fun c hc => by
    have := boxC_mem (P.sub _ hf c hc)
    omega) s hs
  exact ⟨⟨by omega, by omega⟩, by omega, by omega⟩
theorem sum_step (P : Parted w h lots) (hf : first ∈ lots) {j : Nat} {last : List Cl} (hj : lots[j]? = some last) (hne : last ≠ first) {every : List Sd} (he : every.Perm (sidesP first (inSome w h lots (lots.take j) first))) :
    (every ++ sortS (sidesP first fun r => decide (r ∈ last))).Perm (sidesP first (inSome w h lots (lots.take (j + 1)) first)) := by
  have hl : last ∈ lots := List.mem_of_getElem? hj
  refine (he.append (sortS_perm _)).trans ((sidesP_two first _ _ fun r h1 h2 => ?_).trans (List.Perm.of_eq (sidesP_congr fun r => ?_)))
  · have h2 := of_decide_eq_true h2
    simp only [inSome, Bool.or_eq_true, decide_eq_true_eq] at h1
    rcases h1 with (h1 | h1) | ⟨l, h1, h3, h4⟩
    · exact h1 (P.sub _ hl _ h2)
    · have h3 := of_decide_eq_true (List.mem_filter.mp h1).2
      exact h3 (List.mem_flatten.mpr ⟨last, hl, h2⟩)
    · refine absurd ?_ (P.uniq.take_ne hj h1)
      exact (P.dis _ (List.mem_of_mem_take h1) _ hl r h4 h2)
  · unfold inSome
    rw [List.take_add_one, hj, Bool.or_assoc]
    congr 1
    rw [← Bool.decide_or]
    refine decide_eq_decide.mpr ⟨?_, ?_⟩
    · rintro (⟨l, h1, h2, h3⟩ | h1)
      · exact ⟨l, List.mem_append_left _ h1, h2, h3⟩
      · exact ⟨last, by simp, hne, h1⟩
    · rintro ⟨l, h1, h2, h3⟩
      rcases List.mem_append.mp h1 with h1 | h1
      · exact .inl ⟨l, h1, h2, h3⟩
      · have : l = last := by simpa using h1
        subst this
        exact .inr h3
theorem sum_skip {j : Nat} {last : List Cl} (hj : lots[j]? = some last) (he : last = first) {every : List Sd} (h1 : every.Perm (sidesP first (inSome w h lots (lots.take j) first))) : every.Perm (sidesP first (inSome w h lots (lots.take (j + 1)) first)) := by
  refine h1.trans (List.Perm.of_eq (sidesP_congr fun r => ?_))
  unfold inSome
  rw [List.take_add_one, hj]
  congr 1
  refine decide_eq_decide.mpr ⟨?_, ?_⟩
  · rintro ⟨l, h1, h2⟩
    exact ⟨l, List.mem_append_left _ h1, h2⟩
  · rintro ⟨l, h1, h2⟩
    rcases List.mem_append.mp h1 with h1 | h1
    · exact ⟨l, h1, h2⟩
    · have : l = last := by simpa using h1
      exact absurd (this.trans he) h2.1
theorem sum_done (P : Parted w h lots) (hf : first ∈ lots) {every : List Sd} (he : every.Perm (sidesP first (inSome w h lots lots first))) : sortS every = sortS (presides first) := by
  refine sortS_eq (he.trans ?_)
  refine List.Perm.trans (List.Perm.of_eq ?_) (pre_perm first).symm
  rw [lawpre_P]
  refine sidesP_congr fun r => ?_
  unfold inSome
  rw [← Bool.decide_or, ← Bool.decide_or]
  refine decide_eq_decide.mpr ⟨?_, fun h1 => ?_⟩
  · rintro ((h1 | h1) | ⟨l, h1, h2, h3⟩) h4
    · exact h1 (P.sub _ hf _ h4)
    · exact of_decide_eq_true (List.mem_filter.mp h1).2 (List.mem_flatten.mpr ⟨first, hf, h4⟩)
    · exact h2 (P.dis _ h1 _ hf r h3 h4)
  · by_cases h2 : r ∈ boxC w h
    · by_cases h3 : r ∈ lots.flatten
      · obtain ⟨l, h4, h5⟩ := List.mem_flatten.mp h3
        exact .inr ⟨l, h4, fun e => h1 (e ▸ h5), h5⟩
      · exact .inl (.inr (List.mem_filter.mpr ⟨h2, decide_eq_true h3⟩))
    · exact .inl (.inl h2)
end

structure Tx (K : PySem.W.Frag) (mg : Str → Option Value) where
  f_going : Addr
  d_going : FuncData
  F_going : Fun K "going" "going" s_going f_going d_going
  g_going : mg "going" = some (.ref f_going)
  b_going : Binds K d_going ["side"] []
  f_left_of : Addr
  d_left_of : FuncData
  F_left_of : Fun K "left_of" "left_of" s_left_of f_left_of d_left_of
  g_left_of : mg "left_of" = some (.ref f_left_of)
  b_left_of : Binds K d_left_of ["side"] []
  f_right_of : Addr
  d_right_of : FuncData
  F_right_of : Fun K "right_of" "right_of" s_right_of f_right_of d_right_of
  g_right_of : mg "right_of" = some (.ref f_right_of)
  b_right_of : Binds K d_right_of ["side"] []
  f_round_cell : Addr
  d_round_cell : FuncData
  F_round_cell : Fun K "round_cell" "round_cell" s_round_cell f_round_cell d_round_cell
  g_round_cell : mg "round_cell" = some (.ref f_round_cell)
  b_round_cell : Binds K d_round_cell ["cell"] []
  f_sides : Addr
  d_sides : FuncData
  F_sides : Fun K "sides" "sides" s_sides f_sides d_sides
  g_sides : mg "sides" = some (.ref f_sides)
  b_sides : Binds K d_sides ["cells"] []
  f_between : Addr
  d_between : FuncData
  F_between : Fun K "between" "between" s_between f_between d_between
  g_between : mg "between" = some (.ref f_between)
  b_between : Binds K d_between ["one", "other"] []
  f__law_begun : Addr
  d__law_begun : FuncData
  F__law_begun : Fun K "_law_begun" "_law_begun" s__law_begun f__law_begun d__law_begun
  g__law_begun : mg "_law_begun" = some (.ref f__law_begun)
  b__law_begun : Binds K d__law_begun ["script"] []
  f__law_take : Addr
  d__law_take : FuncData
  F__law_take : Fun K "_law_take" "_law_take" s__law_take f__law_take d__law_take
  g__law_take : mg "_law_take" = some (.ref f__law_take)
  b__law_take : Binds K d__law_take ["draw", "many"] []
  f__law_box : Addr
  d__law_box : FuncData
  F__law_box : Fun K "_law_box" "_law_box" s__law_box f__law_box d__law_box
  g__law_box : mg "_law_box" = some (.ref f__law_box)
  b__law_box : Binds K d__law_box ["draw", "wide", "high"] []
  f__law_size : Addr
  d__law_size : FuncData
  F__law_size : Fun K "_law_size" "_law_size" s__law_size f__law_size d__law_size
  g__law_size : mg "_law_size" = some (.ref f__law_size)
  b__law_size : Binds K d__law_size ["draw"] []
  f__law_around : Addr
  d__law_around : FuncData
  F__law_around : Fun K "_law_around" "_law_around" s__law_around f__law_around d__law_around
  g__law_around : mg "_law_around" = some (.ref f__law_around)
  b__law_around : Binds K d__law_around ["cell"] []
  f__law_sides : Addr
  d__law_sides : FuncData
  F__law_sides : Fun K "_law_sides" "_law_sides" s__law_sides f__law_sides d__law_sides
  g__law_sides : mg "_law_sides" = some (.ref f__law_sides)
  b__law_sides : Binds K d__law_sides ["region"] []
  f__law_parted : Addr
  d__law_parted : FuncData
  F__law_parted : Fun K "_law_parted" "_law_parted" s__law_parted f__law_parted d__law_parted
  g__law_parted : mg "_law_parted" = some (.ref f__law_parted)
  b__law_parted : Binds K d__law_parted ["draw", "box"] []
  f__law_beside : Addr
  d__law_beside : FuncData
  F__law_beside : Fun K "_law_beside" "_law_beside" s__law_beside f__law_beside d__law_beside
  g__law_beside : mg "_law_beside" = some (.ref f__law_beside)
  b__law_beside : Binds K d__law_beside ["first", "last"] []
  f_law : Addr
  d_law : FuncData
  F_law : Fun K "law" "law" s_law f_law d_law
  g_law : mg "law" = some (.ref f_law)
  b_law : Binds K d_law ["script"] []
  n_len : mg "len" = none
  n_list : mg "list" = none
  n_range : mg "range" = none
  n_repr : mg "repr" = none
  n_sorted : mg "sorted" = none
  n_sum : mg "sum" = none
  n_tuple : mg "tuple" = none
  a_EAST : Addr
  m_EAST : mg "EAST" = some (.ref a_EAST)
  v_EAST : Dt K (fun _ => none) (.ref a_EAST) (.tuple [(.int (1)), (.int (0))])
  a_NORTH : Addr
  m_NORTH : mg "NORTH" = some (.ref a_NORTH)
  v_NORTH : Dt K (fun _ => none) (.ref a_NORTH) (.tuple [(.int (0)), (.int (1))])
  a_WEST : Addr
  m_WEST : mg "WEST" = some (.ref a_WEST)
  v_WEST : Dt K (fun _ => none) (.ref a_WEST) (.tuple [(.int (-1)), (.int (0))])
  kb_between_0_other_one : KB K d_between ["one", "other"] 0 ["other", "one"] [.inr 1, .inr 0]

local macro_rules | `(tactic| walk_at "side") => `(tactic| first
  | exact Or.inr ⟨by decide, by decide⟩
  | exact Or.inl ⟨by decide, by decide⟩
  | exact Or.inl ⟨by omega, by omega⟩
  | exact Or.inr ⟨by omega, by omega⟩
  | exact ⟨by decide, by decide⟩
  | exact ⟨by omega, by omega⟩
  | (show (0 : Int) < _; omega)
  | (show (0 : Int) < _; decide))
local macro_rules | `(tactic| walk_at "sh") => `(tactic| first
  | assumption
  | (simp [SeqAt.shaped, PyData.canLay0, PyData.canLayAll0, PyData.depth, PyData.depthAll]; done))
local macro_rules | `(tactic| walk_at "cell") => `(tactic| first
  | exact List.mem_cons_self
  | exact List.mem_cons_of_mem _ List.mem_cons_self
  | exact List.mem_cons_of_mem _ (List.mem_cons_of_mem _ List.mem_cons_self)
  | exact List.mem_cons_of_mem _ (List.mem_cons_of_mem _ (List.mem_cons_of_mem _ List.mem_cons_self)))
local macro_rules | `(tactic| walk_at "upd") => `(tactic| first
  | exact Upd.head
  | exact Upd.tail Upd.head
  | exact Upd.tail (Upd.tail Upd.head)
  | exact Upd.tail (Upd.tail (Upd.tail Upd.head)))
local macro_rules | `(tactic| walk_at "rem") => `(tactic| first
  | exact Rem.head
  | exact Rem.tail Rem.head
  | exact Rem.tail (Rem.tail Rem.head)
  | exact Rem.tail (Rem.tail (Rem.tail Rem.head)))
local macro_rules | `(tactic| walk_at "to") => `(tactic| first
  | exact to_name (by decide)
  | (refine to_tupK ?_; repeat (first | exact tok_nil | refine tok_name (by decide) ?_ | refine tok_tup ?_ ?_)))
local macro_rules | `(tactic| walk_at "wp1") => `(tactic| first
  | (with_reducible refine go_seq ?_)
  | (with_reducible refine go_ret ?_)
  | (with_reducible refine go_set ?_)
  | (with_reducible refine go_drop ?_)
  | (with_reducible refine go_asg ?_)
  | (with_reducible refine go_if ?_)
  | (with_reducible refine go_par ?_)
  | (with_reducible refine go_dput ?_)
  | ((with_reducible refine' wp_vd ?e ?_); (case e => rfl))
  | ((with_reducible refine' wp_vp ?e ?_); (case e => rfl))
  | ((with_reducible refine' wp_vs ?e ?_); (case e => rfl))
  | (with_reducible refine wp_ci ?_)
  | (with_reducible refine wp_cs ?_)
  | (with_reducible refine wp_cb ?_)
  | (with_reducible refine wp_cn ?_)
  | ((with_reducible refine' wp_c ?e ?_); (case e => assumption))
  | (with_reducible refine wp_op ?_)
  | (with_reducible refine wp_un ?_)
  | (with_reducible refine wpa_nil ?_)
  | (with_reducible refine wpa_cons ?_)
  | (with_reducible refine wpp_nil ?_)
  | (with_reducible refine wpp_cons ?_)
  | (with_reducible refine wp_tup ?_)
  | (with_reducible refine wp_lst ?_)
  | (with_reducible refine wp_isiG ?_)
  | (with_reducible refine wp_cb_call ?_)
  | (with_reducible refine wp_call ?_)
  | (with_reducible refine wp_callP ?_)
  | (with_reducible refine wp_dget ?_)
  | (with_reducible refine wp_disp ?_)
  | (with_reducible refine wpt_test ?_)
  | (with_reducible refine wpt_b ?_)
  | (with_reducible refine wpt_not ?_)
  | (with_reducible refine wpt_yes ?_)
  | (with_reducible refine gw_name ?_)
  | ((refine' gw_tup ?e ?_); (case e => rfl))
  | (refine gws_cons ?_)
  | (refine gws_nil ?_)
  | ((refine' rw_I0 ?e ?_); (case e => rfl))
  | ((refine' rw_I ?c ?e ?_); (case e => rfl); (case c => walk_at "side"))
  | ((refine' uw_U ?e ?_); (case e => rfl))
  | ((refine' rw_ixT ?e ?_); (case e => rfl))
  | ((refine' rw_ixL ?e ?_); (case e => rfl))
  | ((refine' rw_eqD ?e1 ?e2 ?_); (case e1 => walk_at "sh"); (case e2 => walk_at "sh"))
  | ((refine' rw_neD ?e1 ?e2 ?_); (case e1 => walk_at "sh"); (case e2 => walk_at "sh"))
  | ((refine' rw_inT ?e1 ?e2 ?_); (case e1 => walk_at "sh"); (case e2 => walk_at "sh"))
  | ((refine' rw_inL ?e1 ?e2 ?_); (case e1 => walk_at "sh"); (case e2 => walk_at "sh"))
  | ((refine' rw_niT ?e1 ?e2 ?_); (case e1 => walk_at "sh"); (case e2 => walk_at "sh"))
  | ((refine' rw_niL ?e1 ?e2 ?_); (case e1 => walk_at "sh"); (case e2 => walk_at "sh"))
  | (with_reducible refine rw_eqS ?_)
  | (with_reducible refine rw_neS ?_)
  | (with_reducible refine rw_isN ?_)
  | (with_reducible refine rw_notN ?_)
  | (with_reducible refine wp_if ?_)
  | (with_reducible refine go_next ?_)
  | (with_reducible refine go_cont ?_)
  | (with_reducible refine go_break ?_))
local macro_rules | `(tactic| walk_at "ex") => `(tactic| first
  | (refine ⟨_, rfl, (sz64 rfl), ?_⟩)
  | (refine ⟨_, rfl, ?_⟩)
  | (refine ⟨_, _, rfl, ?_⟩)
  | (refine ⟨_, Or.inl rfl, (by decide), ?_⟩)
  | (refine ⟨_, Or.inr ⟨_, _, rfl, (by walk_at "cell"), rfl⟩, (by decide), ?_⟩))
local macro_rules | `(tactic| walk_at "wp") => `(tactic| repeat (first | walk_at "wp1" | walk_at "ex"))

local macro_rules | `(tactic| walk_at "dg") => `(tactic| first
  | refine ⟨_, _, kR, _, rfl, rfl, by walk_at "cell", look_R, ?_⟩
  | refine ⟨_, _, kA, _, rfl, rfl, by walk_at "cell", look_A, ?_⟩
  | refine ⟨_, _, kG, _, rfl, rfl, by walk_at "cell", look_G, ?_⟩
  | refine ⟨_, _, kT, _, rfl, rfl, by walk_at "cell", look_T, ?_⟩
  | refine ⟨_, _, kM, _, rfl, rfl, by walk_at "cell", look_M, ?_⟩)
local macro_rules | `(tactic| walk_at "dp") => `(tactic| ((first
  | refine ⟨_, _, kR, _, rfl, rfl, by walk_at "upd", five rfl, ?_⟩
  | refine ⟨_, _, kA, _, rfl, rfl, by walk_at "upd", five rfl, ?_⟩
  | refine ⟨_, _, kT, _, rfl, rfl, by walk_at "upd", five rfl, ?_⟩
  | refine ⟨_, _, kM, _, rfl, rfl, by walk_at "upd", five rfl, ?_⟩); (try rw [put_R]); (try rw [put_A]); (try rw [put_T]); (try rw [put_M])))
local macro_rules | `(tactic| walk_at "wd") => `(tactic| repeat (first | walk_at "wp1" | walk_at "dg" | walk_at "dp" | walk_at "ex" | refine cw_lenP (by walk_at "cell") ?_))

section
variable {P : Program} {w : World} {K : PySem.W.Frag} {mg : Str → Option Value} {base : Heap}
def W_going : List SV → Amb → KA → Prop := fun ss A k => ∃ s : Sd, ss = [.dat (sD s)] ∧ k A (.dat (cD (going s)))
theorem ok_going (T : Tx K mg) : FnOk P w K mg base CX0 1 T.f_going T.d_going ["side"] (spW K (W_going)) := by
  refine fn_go T.F_going sc_going (fun ss A k h => ?_) (fun cdv A outer s H E hr => ?_)
  · obtain ⟨i, rfl, _⟩ := h; rfl
  · have hu : (A.deeper (PyProof.Rows.envOfC "going" (defScope s_going) s.heap.objs.size T.f_going cdv)).units + 65 < cLine := by have := hr.un; omega
    have hu1 := hu_of hr
    refine ⟨_, (pss_cons (ps_asg (pv 0) (pg_tupK K 2 rfl (pgs_cons (pg_name (i := 1) sc_going.nd rfl (Or.inl rfl)) (pgs_cons (pg_name (i := 2) sc_going.nd rfl (Or.inl rfl)) pgs_nil))))
      (pss_one (ps_ret (pe_tup (pa_cons (pe_op op_sub (pe_ix (ixK K) (pv 2) pe_int (fun _ _ => rfl)) (pe_ix (ixK K) (pv 1) pe_int (fun _ _ => rfl))) (pa_cons (pe_op op_sub (pe_ix (ixK K) (pv 2) pe_int (fun _ _ => rfl)) (pe_ix (ixK K) (pv 1) pe_int (fun _ _ => rfl))) pa_nil)))))), ?_⟩
    rintro ss A k ⟨i, rfl, hk⟩
    (try dsimp only [cxK] at hk); (try dsimp only [cxK])
    change Go _ _ _ [_, SV.no, SV.no] _
    walk_at "wp"
    exact hk
def W_left_of : List SV → Amb → KA → Prop := fun ss A k => ∃ s : Sd, ss = [.dat (sD s)] ∧ k A (.dat (cD (leftOf s)))
theorem ok_left_of (T : Tx K mg) : FnOk P w K mg base CX0 2 T.f_left_of T.d_left_of ["side"] (spW K (W_left_of)) := by
  refine fn_go T.F_left_of sc_left_of (fun ss A k h => ?_) (fun cdv A outer s H E hr => ?_)
  · obtain ⟨i, rfl, _⟩ := h; rfl
  · have hu : (A.deeper (PyProof.Rows.envOfC "left_of" (defScope s_left_of) s.heap.objs.size T.f_left_of cdv)).units + 65 < cLine := by have := hr.un; omega
    have hu1 := hu_of hr
    have h_EAST := T.v_EAST
    have h_NORTH := T.v_NORTH
    have h_WEST := T.v_WEST
    refine ⟨_, (pss_cons (ps_asg (pe_tup (pa_cons (pe_ix (ixK K) (pv 0) pe_int (fun _ _ => rfl)) (pa_cons (pe_call (ok_going T) (hr.mono (by decide)) (by rfl) T.g_going T.F_going.kp T.b_going .nil pass0 (pa_cons (pv 0) pa_nil)) pa_nil))) (pg_tupK K 2 rfl (pgs_cons (pg_tupK K 2 rfl (pgs_cons (pg_name (i := 1) sc_left_of.nd rfl (Or.inl rfl)) (pgs_cons (pg_name (i := 2) sc_left_of.nd rfl (Or.inl rfl)) pgs_nil))) (pgs_cons (pg_name (i := 3) sc_left_of.nd rfl (Or.inl rfl)) pgs_nil))))
      (pss_cons (ps_if (pt_cmpR (op_eqK K hu) (pv 3) (pe_glob (v := .ref T.a_EAST) rfl T.m_EAST rfl) (nomark _))
        (pss_one (ps_ret (pe_tup (pa_cons (pv 1) (pa_cons (pv 2) pa_nil)))))
        pss_nil)
      (pss_cons (ps_if (pt_cmpR (op_eqK K hu) (pv 3) (pe_glob (v := .ref T.a_NORTH) rfl T.m_NORTH rfl) (nomark _))
        (pss_one (ps_ret (pe_tup (pa_cons (pe_op op_sub (pv 1) pe_int) (pa_cons (pv 2) pa_nil)))))
        pss_nil)
      (pss_one (ps_ret (pe_ifExp (pt_cmpR (op_eqK K hu) (pv 3) (pe_glob (v := .ref T.a_WEST) rfl T.m_WEST rfl) (nomark _)) (pe_tup (pa_cons (pe_op op_sub (pv 1) pe_int) (pa_cons (pe_op op_sub (pv 2) pe_int) pa_nil))) (pe_tup (pa_cons (pv 1) (pa_cons (pe_op op_sub (pv 2) pe_int) pa_nil))))))))), ?_⟩
    rintro ss A k ⟨i, rfl, hk⟩
    (try dsimp only [cxK] at hk); (try dsimp only [cxK])
    change Go _ _ _ [_, SV.no, SV.no, SV.no] _
    have s1 := cD_shaped (going i)
    walk_at "wp"
    have e1 : PyData.eqv (cD (going i)) (.tuple [.int 1, .int 0]) = decide (going i = (1, 0)) := eq_cell _ (1, 0)
    have e2 : PyData.eqv (cD (going i)) (.tuple [.int 0, .int 1]) = decide (going i = (0, 1)) := eq_cell _ (0, 1)
    have e3 : PyData.eqv (cD (going i)) (.tuple [.int (-1), .int 0]) = decide (going i = (-1, 0)) := eq_cell _ (-1, 0)
    unfold leftOf at hk
    refine ⟨fun h1 => ?_, fun h1 => ?_⟩
    · rw [e1, decide_eq_true_eq] at h1
      rw [if_pos h1] at hk
      walk_at "wp"
      exact hk
    · rw [e1, decide_eq_false_iff_not] at h1
      rw [if_neg h1] at hk
      walk_at "wp"
      refine ⟨fun h2 => ?_, fun h2 => ?_⟩
      · rw [e2, decide_eq_true_eq] at h2
        rw [if_pos h2] at hk
        walk_at "wp"
        exact hk
      · rw [e2, decide_eq_false_iff_not] at h2
        rw [if_neg h2] at hk
        walk_at "wp"
        refine ⟨fun h3 => ?_, fun h3 => ?_⟩
        · rw [e3, decide_eq_true_eq] at h3
          rw [if_pos h3] at hk
          walk_at "wp"
          exact hk
        · rw [e3, decide_eq_false_iff_not] at h3
          rw [if_neg h3] at hk
          walk_at "wp"
          exact hk
def W_right_of : List SV → Amb → KA → Prop := fun ss A k => ∃ s : Sd, ss = [.dat (sD s)] ∧ k A (.dat (cD (rightOf s)))
theorem ok_right_of (T : Tx K mg) : FnOk P w K mg base CX0 3 T.f_right_of T.d_right_of ["side"] (spW K (W_right_of)) := by
  refine fn_go T.F_right_of sc_right_of (fun ss A k h => ?_) (fun cdv A outer s H E hr => ?_)
  · obtain ⟨i, rfl, _⟩ := h; rfl
  · have hu : (A.deeper (PyProof.Rows.envOfC "right_of" (defScope s_right_of) s.heap.objs.size T.f_right_of cdv)).units + 65 < cLine := by have := hr.un; omega
    have hu1 := hu_of hr
    refine ⟨_, (pss_cons (ps_asg (pv 0) (pg_tupK K 2 rfl (pgs_cons (pg_name (i := 1) sc_right_of.nd rfl (Or.inl rfl)) (pgs_cons (pg_name (i := 2) sc_right_of.nd rfl (Or.inl rfl)) pgs_nil))))
      (pss_one (ps_ret (pe_call (ok_left_of T) (hr.mono (by decide)) (by rfl) T.g_left_of T.F_left_of.kp T.b_left_of .nil pass0 (pa_cons (pe_tup (pa_cons (pv 2) (pa_cons (pv 1) pa_nil))) pa_nil))))), ?_⟩
    rintro ss A k ⟨i, rfl, hk⟩
    (try dsimp only [cxK] at hk); (try dsimp only [cxK])
    change Go _ _ _ [_, SV.no, SV.no] _
    walk_at "wp"
    exact ⟨(i.2, i.1), rfl, hk⟩
def W_round_cell : List SV → Amb → KA → Prop := fun ss A k => ∃ c : Cl, ss = [.dat (cD c)] ∧ k A (.dat (.list ((roundCell c).map sD)))
theorem ok_round_cell (T : Tx K mg) : FnOk P w K mg base CX0 1 T.f_round_cell T.d_round_cell ["cell"] (spW K (W_round_cell)) := by
  refine fn_go T.F_round_cell sc_round_cell (fun ss A k h => ?_) (fun cdv A outer s H E hr => ?_)
  · obtain ⟨i, rfl, _⟩ := h; rfl
  · have hu : (A.deeper (PyProof.Rows.envOfC "round_cell" (defScope s_round_cell) s.heap.objs.size T.f_round_cell cdv)).units + 65 < cLine := by have := hr.un; omega
    have hu1 := hu_of hr
    refine ⟨_, (pss_cons (ps_asg (pv 0) (pg_tupK K 2 rfl (pgs_cons (pg_name (i := 1) sc_round_cell.nd rfl (Or.inl rfl)) (pgs_cons (pg_name (i := 2) sc_round_cell.nd rfl (Or.inl rfl)) pgs_nil))))
      (pss_cons (ps_set (i := 3) sc_round_cell.nd rfl (Or.inr rfl) (pe_lst (pa_cons (pe_tup (pa_cons (pv 1) (pa_cons (pv 2) pa_nil))) (pa_cons (pe_tup (pa_cons (pe_op op_add (pv 1) pe_int) (pa_cons (pv 2) pa_nil))) (pa_cons (pe_tup (pa_cons (pe_op op_add (pv 1) pe_int) (pa_cons (pe_op op_add (pv 2) pe_int) pa_nil))) (pa_cons (pe_tup (pa_cons (pv 1) (pa_cons (pe_op op_add (pv 2) pe_int) pa_nil))) pa_nil))))))
      (pss_one (ps_ret (pe_lc (own := [("at", 4)]) rfl sc_round_cell.nd (pi_range1 (by rfl) T.n_range (pa_cons pe_int pa_nil)) (blkOk_by (own := [("at", 4)]) (N := NN_round_cell) (sc := (defScope s_round_cell)) (by decide +kernel)) (fun _ _ _ _ _ => (pg_name (i := 4) sc_round_cell.nd rfl (by first | exact Or.inl rfl | exact Or.inr rfl))) (fun _ _ _ _ _ => pts_nil) (fun _ _ _ _ _ => (pe_tup (pa_cons (pe_ix (ixK K) (pv 3) (pe_op op_sub (pv 4) pe_int) (fun _ _ => rfl)) (pa_cons (pe_ix (ixK K) (pv 3) (pv 4) (fun _ _ => rfl)) pa_nil))))))))), ?_⟩
    rintro ss A k ⟨i, rfl, hk⟩
    (try dsimp only [cxK] at hk); (try dsimp only [cxK])
    change Go _ _ _ [_, SV.no, SV.no, SV.no, SV.no] _
    walk_at "wp"
    refine wp_lcA (enc := fun (j : Nat) => PyData.int (0 + (j : Int))) (xs := List.range 4) (by walk_at "to") (fun j => sD ((roundCell i).getD j default)) (sz64 rfl) ?_
    refine iw_rng1 ?_
    walk_at "wp"
    refine ⟨by decide, by decide, irange_enc 0 4, fun j hj => ?_, hk⟩
    have hj4 : j < 4 := List.mem_range.mp hj
    match j, hj4 with
    | 0, _ => walk_at "wp"; exact ⟨rfl, rfl⟩
    | 1, _ => walk_at "wp"; exact ⟨rfl, rfl⟩
    | 2, _ => walk_at "wp"; exact ⟨rfl, rfl⟩
    | 3, _ => walk_at "wp"; exact ⟨rfl, rfl⟩
def W_sides : List SV → Amb → KA → Prop := fun ss A k => ∃ cs : List Cl, ss = [.dat (.tuple (cs.map cD))] ∧ cs.length ≤ 1000 ∧ k A (.dat (.list ((sortS (presides cs)).map sD)))
theorem ok_sides (T : Tx K mg) : FnOk P w K mg base CX0 4 T.f_sides T.d_sides ["cells"] (spW K (W_sides)) := by
  refine fn_go T.F_sides sc_sides (fun ss A k h => ?_) (fun cdv A outer s H E hr => ?_)
  · obtain ⟨i, rfl, _⟩ := h; rfl
  · have hu : (A.deeper (PyProof.Rows.envOfC "sides" (defScope s_sides) s.heap.objs.size T.f_sides cdv)).units + 65 < cLine := by have := hr.un; omega
    have hu1 := hu_of hr
    refine ⟨_, (pss_one (ps_ret (pe_callB (cr_sortK K hu) (by rfl) T.n_sorted (by decide +kernel) (pa_cons (pe_lc2 (own := [("cell", 1), ("side", 2)]) (vs1 := [2]) rfl sc_sides.nd (pi_tupK K (pv 0)) (blkOk_by (own := [("cell", 1), ("side", 2)]) (N := NN_sides) (sc := (defScope s_sides)) (by decide +kernel)) (by decide) (fun _ _ _ _ _ => (pg_name (i := 1) sc_sides.nd rfl (by first | exact Or.inl rfl | exact Or.inr rfl))) (fun _ _ _ _ _ => pts_nil) (fun _ _ _ _ _ => (pi_listK K (pe_call (ok_round_cell T) (hr.mono (by decide)) (by rfl) T.g_round_cell T.F_round_cell.kp T.b_round_cell .nil pass0 (pa_cons (pv 1) pa_nil)))) (fun _ _ _ _ _ => (pg_name (i := 2) sc_sides.nd rfl (by first | exact Or.inl rfl | exact Or.inr rfl))) (fun _ _ _ _ _ => pts_one (pt_cmpR (op_niK K hu) (pe_call (ok_right_of T) (hr.mono (by decide)) (by rfl) T.g_right_of T.F_right_of.kp T.b_right_of .nil pass0 (pa_cons (pv 2) pa_nil)) (pv 0) rfl)) (fun _ _ _ _ _ => (pv 2))) pa_nil)))), ?_⟩
    rintro ss A k ⟨i, rfl, hk⟩
    (try dsimp only [cxK] at hk); (try dsimp only [cxK])
    change Go _ _ _ [_, SV.no, SV.no] _
    obtain ⟨hl, hk⟩ := hk
    walk_at "wp"
    refine wp_frz ?_
    refine wp_lc2M (enc := cD) (enc1 := sD) (xs := i) (ys := roundCell) (by walk_at "to") (by walk_at "to") (fun _ s => decide (¬ rightOf s ∈ i)) (fun _ s => sD s) (n := 4) (fun x _ => Nat.le_refl 4) (sz (by omega)) ?_
    refine iw_tup ?_
    walk_at "wp"
    refine ⟨rfl, fun x hx => ?_, fun q => ?_⟩
    · walk_at "wp"
      refine ⟨rfl, iw_list ?_⟩
      walk_at "wp"
      refine ⟨rfl, rfl, fun y hy => ?_⟩
      have s1 := cD_shaped (rightOf y)
      have s2 := cells_shaped i
      unfold LcItem
      walk_at "wp"
      refine ⟨by rw [in_cells]; simp, fun _ => ?_, fun _ => rfl⟩
      walk_at "wp"
      exact ⟨rfl, rfl⟩
    · refine ⟨q, _, A.cells, rfl, .head, ?_⟩
      walk_at "wp"
      have e : (i.flatMap fun x => ((roundCell x).filter fun s => decide (¬ rightOf s ∈ i)).map fun s => sD s) = (presides i).map sD := by
        unfold presides
        rw [List.map_flatMap]
      rw [e]
      refine cw_frz ?_
      refine cw_sortL (sides_alike _) (sides_sort _) (sides_depth _) fun p => ⟨p, _, A.cells, rfl, .head, ?_⟩
      rw [← sortS_map]
      exact hk
def W_between : List SV → Amb → KA → Prop := fun ss A k => ∃ x : List Cl × List Cl, ss = [.dat (.tuple (x.1.map cD)), .dat (.tuple (x.2.map cD))] ∧ x.1.length ≤ 1000 ∧ k A (.dat (.list (((sortS (presides x.1)).filter fun s => decide (rightOf s ∈ x.2)).map sD)))
theorem ok_between (T : Tx K mg) : FnOk P w K mg base CX0 5 T.f_between T.d_between ["one", "other"] (spW K (W_between)) := by
  refine fn_go T.F_between sc_between (fun ss A k h => ?_) (fun cdv A outer s H E hr => ?_)
  · obtain ⟨i, rfl, _⟩ := h; rfl
  · have hu : (A.deeper (PyProof.Rows.envOfC "between" (defScope s_between) s.heap.objs.size T.f_between cdv)).units + 65 < cLine := by have := hr.un; omega
    have hu1 := hu_of hr
    refine ⟨_, (pss_one (ps_ret (pe_lc (own := [("side", 2)]) rfl sc_between.nd (pi_listK K (pe_call (ok_sides T) (hr.mono (by decide)) (by rfl) T.g_sides T.F_sides.kp T.b_sides .nil pass0 (pa_cons (pv 0) pa_nil))) (blkOk_by (own := [("side", 2)]) (N := NN_between) (sc := (defScope s_between)) (by decide +kernel)) (fun _ _ _ _ _ => (pg_name (i := 2) sc_between.nd rfl (by first | exact Or.inl rfl | exact Or.inr rfl))) (fun _ _ _ _ _ => pts_one (pt_cmpR (op_inK K hu) (pe_call (ok_right_of T) (hr.mono (by decide)) (by rfl) T.g_right_of T.F_right_of.kp T.b_right_of .nil pass0 (pa_cons (pv 2) pa_nil)) (pv 1) rfl)) (fun _ _ _ _ _ => (pv 2))))), ?_⟩
    rintro ss A k ⟨⟨one, other⟩, rfl, hk⟩
    (try dsimp only [cxK] at hk); (try dsimp only [cxK])
    change Go _ _ _ [_, _, SV.no] _
    obtain ⟨hl, hk⟩ := hk
    walk_at "wp"
    refine wp_lcM (enc := sD) (xs := sortS (presides one)) (by walk_at "to") (fun s => decide (rightOf s ∈ other)) sD (by rw [(sortS_perm _).length_eq]; have := presides_len one; exact sz (by omega)) ?_
    refine iw_list ?_
    walk_at "wp"
    refine ⟨hl, ?_⟩
    walk_at "wp"
    refine ⟨rfl, fun y hy => ?_, hk⟩
    have s1 := cD_shaped (rightOf y)
    have s2 := cells_shaped other
    unfold LcItem
    walk_at "wp"
    refine ⟨by rw [in_cells], fun _ => ?_, fun _ => rfl⟩
    walk_at "wp"
    exact ⟨rfl, rfl⟩
def W__law_begun : List SV → Amb → KA → Prop := fun ss A k => ∃ ns : List Int, ss = [.scr ns] ∧ ∀ p q, k ⟨A.I, (p, .dk (drawDK q 0 0 0 91)) :: (q, .lst (numsSV ns)) :: A.cells⟩ (.ptr p)
theorem ok__law_begun (T : Tx K mg) : FnOk P w K mg base CX0 1 T.f__law_begun T.d__law_begun ["script"] (spW K (W__law_begun)) := by
  refine fn_go T.F__law_begun sc__law_begun (fun ss A k h => ?_) (fun cdv A outer s H E hr => ?_)
  · obtain ⟨i, rfl, _⟩ := h; rfl
  · have hu : (A.deeper (PyProof.Rows.envOfC "_law_begun" (defScope s__law_begun) s.heap.objs.size T.f__law_begun cdv)).units + 65 < cLine := by have := hr.un; omega
    have hu1 := hu_of hr
    refine ⟨_, (pss_one (ps_ret (pe_disp (pps_cons pe_str (pe_callTy (call_listK K) (by rfl) T.n_list (by decide +kernel) (pa_cons (pv 0) pa_nil)) (pps_cons pe_str pe_int (pps_cons pe_str pe_int (pps_cons pe_str pe_int (pps_cons pe_str pe_int pps_nil))))) (by rfl) (by rfl) (fun z => by cases z) (by decide)))), ?_⟩
    rintro ss A k ⟨i, rfl, hk⟩
    (try dsimp only [cxK] at hk); (try dsimp only [cxK])
    change Go _ _ _ [_] _
    walk_at "wp"
    refine cw_listS fun q => ?_
    walk_at "wp"
    refine ⟨by show 5 ≤ 15; decide, fun p => ?_⟩
    have e : mergeS [] (drawDK q 0 0 0 91) = drawDK q 0 0 0 91 := merge_nodup (draw_nodup q 0 0 0 91)
    show k ⟨A.I, (p, .dk (mergeS [] (drawDK q 0 0 0 91))) :: (q, .lst (numsSV i)) :: A.cells⟩ (.ptr p)
    rw [e]
    exact hk p q
def W__law_take : PySem.W.Frag → List SV → Amb → KA → Prop := fun K ss A k => ∃ x : Addr × Int, ss = [.ptr x.1, .dat (.int x.2)] ∧ isDraw K A x.1 ∧ 0 < x.2 ∧ x.2 < 1073741824 ∧ ∀ r : Int, 0 ≤ r → r < x.2 → k A (.dat (.int r))
theorem ok__law_take (T : Tx K mg) : FnOk P w K mg base CX0 1 T.f__law_take T.d__law_take ["draw", "many"] (spW K (W__law_take K)) := by
  refine fn_go T.F__law_take sc__law_take (fun ss A k h => ?_) (fun cdv A outer s H E hr => ?_)
  · obtain ⟨i, rfl, _⟩ := h; rfl
  · have hu : (A.deeper (PyProof.Rows.envOfC "_law_take" (defScope s__law_take) s.heap.objs.size T.f__law_take cdv)).units + 65 < cLine := by have := hr.un; omega
    have hu1 := hu_of hr
    refine ⟨_, (pss_cons (ps_set (i := 2) sc__law_take.nd rfl (Or.inl rfl) (pe_dget hu1 (pv 0) pe_str (fun _ _ => rfl)))
      (pss_cons (ps_while PassesOwn.never (PW.pt (pw_and (pt_cmpR op_lt (pe_dget hu1 (pv 0) pe_str (fun _ _ => rfl)) pe_int (nomark _)) (pw_and1 (pt_cmpR op_lt (pe_dget hu1 (pv 0) pe_str (fun _ _ => rfl)) (pe_callB (call_lenK K) (by rfl) T.n_len (by decide +kernel) (pa_cons (pv 2) pa_nil)) (nomark _)))))
        (pss_cons (ps_if (pt_cmpR op_ge (pe_ix (ixK K) (pv 2) (pe_dget hu1 (pv 0) pe_str (fun _ _ => rfl)) (fun _ _ => rfl)) (pe_op op_pow pe_int pe_int) (nomark _))
            (pss_one (ps_dput hu1 (pv 0) pe_str (pe_ix (ixK K) (pv 2) (pe_dget hu1 (pv 0) pe_str (fun _ _ => rfl)) (fun _ _ => rfl)) rfl))
            pss_nil)
          (pss_one (ps_dput hu1 (pv 0) pe_str (pe_op op_add (pe_dget hu1 (pv 0) pe_str (fun _ _ => rfl)) pe_int) rfl))))
      (pss_cons (ps_if (pt_cmpR op_gt (pe_dget hu1 (pv 0) pe_str (fun _ _ => rfl)) pe_int (nomark _))
        (pss_cons (ps_set (i := 3) sc__law_take.nd rfl (Or.inl rfl) (pe_op op_mod (pe_dget hu1 (pv 0) pe_str (fun _ _ => rfl)) (pv 1)))
          (pss_cons (ps_dput hu1 (pv 0) pe_str (pe_op op_fdiv (pe_dget hu1 (pv 0) pe_str (fun _ _ => rfl)) (pv 1)) rfl)
          (pss_one (ps_ret (pv 3)))))
        pss_nil)
      (pss_cons (ps_set (i := 4) sc__law_take.nd rfl (Or.inl rfl) (pe_dget hu1 (pv 0) pe_str (fun _ _ => rfl)))
      (pss_cons (ps_dput hu1 (pv 0) pe_str (pe_op op_add (pv 4) pe_int) rfl)
      (pss_cons (ps_set (i := 5) sc__law_take.nd rfl (Or.inl rfl) pe_int)
      (pss_cons (ps_if (pt_cmpR (op_neK K hu) (pv 2) (pe_lst pa_nil) (nomark _))
        (pss_one (ps_set (i := 5) sc__law_take.nd rfl (Or.inl rfl) (pe_ix (ixK K) (pv 2) (pe_op op_mod (pv 4) (pe_callB (call_lenK K) (by rfl) T.n_len (by decide +kernel) (pa_cons (pv 2) pa_nil))) (fun _ _ => rfl))))
        pss_nil)
      (pss_cons (ps_dput hu1 (pv 0) pe_str (pe_op op_mod (pe_op op_add (pe_op op_add (pe_op op_mul (pe_dget hu1 (pv 0) pe_str (fun _ _ => rfl)) pe_int) (pv 5)) (pe_op op_mul pe_int (pv 4))) pe_int) rfl)
      (pss_one (ps_ret (pe_op op_mod (pe_op op_fdiv (pe_op op_mod (pe_op op_add (pe_op op_pow (pe_dget hu1 (pv 0) pe_str (fun _ _ => rfl)) pe_int) (pe_op op_mul pe_int (pv 4))) pe_int) pe_int) (pv 1)))))))))))), ?_⟩
    rintro ss A k ⟨⟨p, many⟩, rfl, hk⟩
    (try dsimp only [cxK] at hk); (try dsimp only [cxK])
    change Go _ _ _ [_, _, SV.no, SV.no, SV.no, SV.no] _
    obtain ⟨⟨q, ns, hns, hI⟩, h0, h1, hk⟩ := hk
    obtain ⟨I, l⟩ := A
    subst hI
    refine go_open fun cs hc _ => ?_
    obtain ⟨a, r, t, m, rfl, ha, hr', ht, hm, hm2⟩ := hc
    change Go _ ⟨Blk.nil, (p, _) :: (q, _) :: l⟩ _ _ _
    walk_at "wd"
    refine go_cut (fun A1 S1 => ∃ a r : Int, 0 ≤ a ∧ 0 ≤ r ∧ A1 = ⟨Blk.nil, (p, .dk (drawDK q a r t m)) :: (q, .lst (numsSV ns)) :: l⟩ ∧ S1 = [.ptr p, .dat (.int many), .ptr q, .no, .no, .no]) ?_ ?_
    · refine go_while (fun n A1 S1 => ∃ a r : Int, 0 ≤ a ∧ 0 ≤ r ∧ n = (ns.length - a).toNat ∧ A1 = ⟨Blk.nil, (p, .dk (drawDK q a r t m)) :: (q, .lst (numsSV ns)) :: l⟩ ∧ S1 = [.ptr p, .dat (.int many), .ptr q, .no, .no, .no]) ⟨_, a, r, ha, hr', rfl, rfl, rfl⟩ ?_
      rintro n A1 S1 ⟨a, r, ha, hr', rfl, rfl, rfl⟩
      refine wpt_and ?_
      walk_at "wd"
      refine ⟨fun h1 => ?_, fun h1 => ?_⟩
      · walk_at "wd"
        rw [nums_len]
        refine ⟨fun h2 => ?_, fun _ => ⟨a, r, ha, hr', rfl, rfl⟩⟩
        rw [decide_eq_true_eq] at h2
        walk_at "wd"
        refine rw_ixP (by walk_at "cell") (atI_nums ha h2) ?_
        walk_at "wd"
        refine ⟨fun h3 => ?_, fun h3 => ?_⟩
        · walk_at "wd"
          refine rw_ixP (by walk_at "cell") (atI_nums ha h2) ?_
          walk_at "wd"
          rw [decide_eq_true_eq] at h3
          refine ⟨((ns.length : Int) - (a + 1)).toNat, by omega, a + 1, _, by omega, ?_, rfl, rfl, rfl⟩
          have e : (0 : Int) ≤ 10 ^ (18 : Int).toNat := by decide
          omega
        · walk_at "wd"
          exact ⟨((ns.length : Int) - (a + 1)).toNat, by omega, a + 1, r, by omega, hr', rfl, rfl, rfl⟩
      · exact ⟨fun z => by (cases z), fun _ => ⟨a, r, ha, hr', rfl, rfl⟩⟩
    · rintro A1 S1 ⟨a, r, ha, hr', rfl, rfl⟩
      walk_at "wd"
      refine ⟨fun h3 => ?_, fun h3 => ?_⟩
      · walk_at "wd"
        refine ⟨[_, _], l, rfl, rfl, ⟨a, _, t, m, rfl, ha, Int.ediv_nonneg hr' (by omega), ht, hm, hm2⟩, hk _ (Int.emod_nonneg _ (by omega)) (Int.emod_lt_of_pos _ h0)⟩
      · walk_at "wd"
        refine rw_neP (ds := ns.map .int) (by rw [← nums_dats]; walk_at "cell") (ints_shapedL ns) (by walk_at "sh") ?_
        walk_at "wd"
        refine if_join (fun A1 S1 => A1 = ⟨Blk.nil, (p, .dk (drawDK q a r (t + 1) m)) :: (q, .lst (numsSV ns)) :: l⟩ ∧ ∃ c : Int, S1 = [.ptr p, .dat (.int many), .ptr q, .no, .dat (.int t), .dat (.int c)]) (fun h4 => ?_) (fun h4 => ?_) ?_
        · have hne : 0 < (ns.length : Int) := by
            cases ns with
            | nil => simp [PyData.eqv, PyData.eqvAll] at h4
            | cons x xs => simp only [List.length_cons]; omega
          walk_at "wd"
          rw [nums_len]
          refine rw_I (g := fun i j => .int (i % j)) hne rfl ?_
          refine rw_ixP (by walk_at "cell") (atI_nums (Int.emod_nonneg _ (by omega)) (Int.emod_lt_of_pos _ hne)) ?_
          exact ⟨rfl, _, rfl⟩
        · walk_at "wd"
          exact ⟨rfl, 0, rfl⟩
        · rintro A1 S1 ⟨rfl, c, rfl⟩
          walk_at "wd"
          refine ⟨[_, _], l, rfl, rfl, ⟨a, r, t + 1, _, rfl, ha, hr', by omega, Int.emod_nonneg _ (by decide), Int.emod_lt_of_pos _ (by decide)⟩, hk _ (Int.emod_nonneg _ (by omega)) (Int.emod_lt_of_pos _ h0)⟩
def W__law_box : List SV → Amb → KA → Prop := fun ss A k => ∃ x : Addr × Nat × Nat, ss = [.ptr x.1, .dat (.int x.2.1), .dat (.int x.2.2)] ∧ x.2.1 ≤ 7 ∧ x.2.2 ≤ 7 ∧ k A (.dat (.list ((boxC x.2.1 x.2.2).map cD)))
theorem ok__law_box (T : Tx K mg) : FnOk P w K mg base CX0 1 T.f__law_box T.d__law_box ["draw", "wide", "high"] (spW K (W__law_box)) := by
  refine fn_go T.F__law_box sc__law_box (fun ss A k h => ?_) (fun cdv A outer s H E hr => ?_)
  · obtain ⟨i, rfl, _⟩ := h; rfl
  · have hu : (A.deeper (PyProof.Rows.envOfC "_law_box" (defScope s__law_box) s.heap.objs.size T.f__law_box cdv)).units + 65 < cLine := by have := hr.un; omega
    have hu1 := hu_of hr
    refine ⟨_, (pss_cons (ps_set (i := 3) sc__law_box.nd rfl (Or.inl rfl) (pe_lst pa_nil))
      (pss_cons (ps_for PassesOwn.never rfl (pi_range1 (by rfl) T.n_range (pa_cons (pv 1) pa_nil)) (pg_name (i := 4) sc__law_box.nd rfl (Or.inr rfl))
        (pss_one (ps_set (i := 3) sc__law_box.nd rfl (Or.inl rfl) (pe_op op_cat (pv 3) (pe_lc (own := [("j", 5)]) rfl sc__law_box.nd (pi_range1 (by rfl) T.n_range (pa_cons (pv 2) pa_nil)) (blkOk_by (own := [("j", 5)]) (N := NN__law_box) (sc := (defScope s__law_box)) (by decide +kernel)) (fun _ _ _ _ _ => (pg_name (i := 5) sc__law_box.nd rfl (by first | exact Or.inl rfl | exact Or.inr rfl))) (fun _ _ _ _ _ => pts_nil) (fun _ _ _ _ _ => (pe_tup (pa_cons (pv 4) (pa_cons (pv 5) pa_nil)))))))))
      (pss_one (ps_ret (pv 3))))), ?_⟩
    rintro ss A k ⟨⟨p, w, h⟩, rfl, hk⟩
    (try dsimp only [cxK] at hk); (try dsimp only [cxK])
    change Go _ _ _ [_, _, _, SV.no, SV.no, SV.no] _
    obtain ⟨hw, hh, hk⟩ := hk
    walk_at "wp"
    refine go_forR (n := w) ?_
    refine iw_rng1 ?_
    walk_at "wp"
    refine ⟨by show -(2 ^ 62) ≤ (w : Int); omega, by show (w : Int) < 2 ^ 62; omega, by rw [Int.toNat_natCast], fun i A1 S1 => A1 = A ∧ ∃ x, S1 = [.ptr p, .dat (.int w), .dat (.int h), .dat (.list ((boxC i h).map cD)), x, .no], ⟨rfl, _, rfl⟩, ?_, ?_⟩
    · rintro i A1 S1 hi ⟨rfl, x, rfl⟩
      walk_at "wp"
      refine wp_lcA (enc := fun (j : Nat) => PyData.int (0 + (j : Int))) (xs := List.range h) (by walk_at "to") (fun j => cD ((i : Int), (j : Int))) (by rw [List.length_range]; exact sz (by omega)) ?_
      refine iw_rng1 ?_
      walk_at "wp"
      refine ⟨by show -(2 ^ 62) ≤ (h : Int); omega, by show (h : Int) < 2 ^ 62; omega, by rw [Int.toNat_natCast, irange_enc], fun j hj => ?_, ?_⟩
      · walk_at "wp"
        exact ⟨rfl, by simp only [cD, Int.zero_add]⟩
      · refine rw_cat ?_ ?_
        · rw [List.length_map, boxC_len, List.length_map, List.length_range]
          have := box_small (Nat.le_of_lt (Nat.lt_of_lt_of_le hi hw)) hh
          exact sz (by omega)
        · refine ⟨rfl, .dat (.int i), ?_⟩
          rw [boxC_succ, List.map_append, List.map_map]
          rfl
    · rintro A1 S1 ⟨rfl, x, rfl⟩
      walk_at "wp"
      exact hk
def W__law_size : PySem.W.Frag → List SV → Amb → KA → Prop := fun K ss A k => ∃ p : Addr, ss = [.ptr p] ∧ isDraw K A p ∧ ∀ w h : Nat, 1 ≤ w → w ≤ 7 → 1 ≤ h → h ≤ 7 → k A (.dat (.tuple [.int w, .int h]))
theorem ok__law_size (T : Tx K mg) : FnOk P w K mg base CX0 2 T.f__law_size T.d__law_size ["draw"] (spW K (W__law_size K)) := by
  refine fn_go T.F__law_size sc__law_size (fun ss A k h => ?_) (fun cdv A outer s H E hr => ?_)
  · obtain ⟨i, rfl, _⟩ := h; rfl
  · have hu : (A.deeper (PyProof.Rows.envOfC "_law_size" (defScope s__law_size) s.heap.objs.size T.f__law_size cdv)).units + 65 < cLine := by have := hr.un; omega
    have hu1 := hu_of hr
    refine ⟨_, (pss_one (ps_ret (pe_tup (pa_cons (pe_op op_add pe_int (pe_call (ok__law_take T) (hr.mono (by decide)) (by rfl) T.g__law_take T.F__law_take.kp T.b__law_take .nil pass0 (pa_cons (pv 0) (pa_cons pe_int pa_nil)))) (pa_cons (pe_op op_add pe_int (pe_call (ok__law_take T) (hr.mono (by decide)) (by rfl) T.g__law_take T.F__law_take.kp T.b__law_take .nil pass0 (pa_cons (pv 0) (pa_cons pe_int pa_nil)))) pa_nil))))), ?_⟩
    rintro ss A k ⟨i, rfl, hk⟩
    (try dsimp only [cxK] at hk); (try dsimp only [cxK])
    change Go _ _ _ [_] _
    obtain ⟨hI, hk⟩ := hk
    walk_at "wp"
    refine ⟨(i, 7), rfl, hI, by simp, by simp, fun a a0 a1 => ?_⟩
    walk_at "wp"
    refine ⟨(i, 7), rfl, hI, by simp, by simp, fun b b0 b1 => ?_⟩
    walk_at "wp"
    simp only at a1 b1
    have e1 : 1 + a = ((1 + a).toNat : Int) := by omega
    have e2 : 1 + b = ((1 + b).toNat : Int) := by omega
    rw [e1, e2]
    exact hk _ _ (by omega) (by omega) (by omega) (by omega)
def W__law_around : List SV → Amb → KA → Prop := fun ss A k => ∃ c : Cl, ss = [.dat (cD c)] ∧ k A (.dat (.list ((around c).map tD)))
theorem ok__law_around (T : Tx K mg) : FnOk P w K mg base CX0 1 T.f__law_around T.d__law_around ["cell"] (spW K (W__law_around)) := by
  refine fn_go T.F__law_around sc__law_around (fun ss A k h => ?_) (fun cdv A outer s H E hr => ?_)
  · obtain ⟨i, rfl, _⟩ := h; rfl
  · have hu : (A.deeper (PyProof.Rows.envOfC "_law_around" (defScope s__law_around) s.heap.objs.size T.f__law_around cdv)).units + 65 < cLine := by have := hr.un; omega
    have hu1 := hu_of hr
    refine ⟨_, (pss_cons (ps_asg (pv 0) (pg_tupK K 2 rfl (pgs_cons (pg_name (i := 1) sc__law_around.nd rfl (Or.inl rfl)) (pgs_cons (pg_name (i := 2) sc__law_around.nd rfl (Or.inl rfl)) pgs_nil))))
      (pss_cons (ps_set (i := 3) sc__law_around.nd rfl (Or.inl rfl) (pe_lst (pa_cons (pe_tup (pa_cons (pe_tup (pa_cons (pv 1) (pa_cons (pv 2) pa_nil))) (pa_cons (pe_tup (pa_cons (pe_op op_add (pv 1) pe_int) (pa_cons (pv 2) pa_nil))) (pa_cons (pe_tup (pa_cons (pv 1) (pa_cons (pe_op op_sub (pv 2) pe_int) pa_nil))) pa_nil)))) (pa_cons (pe_tup (pa_cons (pe_tup (pa_cons (pe_op op_add (pv 1) pe_int) (pa_cons (pv 2) pa_nil))) (pa_cons (pe_tup (pa_cons (pe_op op_add (pv 1) pe_int) (pa_cons (pe_op op_add (pv 2) pe_int) pa_nil))) (pa_cons (pe_tup (pa_cons (pe_op op_add (pv 1) pe_int) (pa_cons (pv 2) pa_nil))) pa_nil)))) pa_nil))))
      (pss_one (ps_ret (pe_op op_cat (pv 3) (pe_lst (pa_cons (pe_tup (pa_cons (pe_tup (pa_cons (pe_op op_add (pv 1) pe_int) (pa_cons (pe_op op_add (pv 2) pe_int) pa_nil))) (pa_cons (pe_tup (pa_cons (pv 1) (pa_cons (pe_op op_add (pv 2) pe_int) pa_nil))) (pa_cons (pe_tup (pa_cons (pv 1) (pa_cons (pe_op op_add (pv 2) pe_int) pa_nil))) pa_nil)))) (pa_cons (pe_tup (pa_cons (pe_tup (pa_cons (pv 1) (pa_cons (pe_op op_add (pv 2) pe_int) pa_nil))) (pa_cons (pe_tup (pa_cons (pv 1) (pa_cons (pv 2) pa_nil))) (pa_cons (pe_tup (pa_cons (pe_op op_sub (pv 1) pe_int) (pa_cons (pv 2) pa_nil))) pa_nil)))) pa_nil)))))))), ?_⟩
    rintro ss A k ⟨i, rfl, hk⟩
    (try dsimp only [cxK] at hk); (try dsimp only [cxK])
    change Go _ _ _ [_, SV.no, SV.no, SV.no] _
    walk_at "wp"
    refine rw_cat (sz64 rfl) ?_
    exact hk
def W__law_sides : List SV → Amb → KA → Prop := fun ss A k => ∃ cs : List Cl, ss = [.dat (.tuple (cs.map cD))] ∧ cs.length ≤ 1000 ∧ k A (.dat (.list ((sortS (lawpre cs cs)).map sD)))
theorem ok__law_sides (T : Tx K mg) : FnOk P w K mg base CX0 2 T.f__law_sides T.d__law_sides ["region"] (spW K (W__law_sides)) := by
  refine fn_go T.F__law_sides sc__law_sides (fun ss A k h => ?_) (fun cdv A outer s H E hr => ?_)
  · obtain ⟨i, rfl, _⟩ := h; rfl
  · have hu : (A.deeper (PyProof.Rows.envOfC "_law_sides" (defScope s__law_sides) s.heap.objs.size T.f__law_sides cdv)).units + 65 < cLine := by have := hr.un; omega
    have hu1 := hu_of hr
    refine ⟨_, (pss_cons (ps_set (i := 1) sc__law_sides.nd rfl (Or.inl rfl) (pe_lst pa_nil))
      (pss_cons (ps_for PassesOwn.never rfl (pi_tupK K (pv 0)) (pg_name (i := 2) sc__law_sides.nd rfl (Or.inl rfl))
        (pss_one (ps_set (i := 1) sc__law_sides.nd rfl (Or.inl rfl) (pe_op op_cat (pv 1) (pe_lc (own := [("begin", 3), ("end", 4), ("right", 5)]) rfl sc__law_sides.nd (pi_listK K (pe_call (ok__law_around T) (hr.mono (by decide)) (by rfl) T.g__law_around T.F__law_around.kp T.b__law_around .nil pass0 (pa_cons (pv 2) pa_nil))) (blkOk_by (own := [("begin", 3), ("end", 4), ("right", 5)]) (N := NN__law_sides) (sc := (defScope s__law_sides)) (by decide +kernel)) (fun _ _ _ _ _ => (pg_tupK K 3 rfl (pgs_cons (pg_name (i := 3) sc__law_sides.nd rfl (by first | exact Or.inl rfl | exact Or.inr rfl)) (pgs_cons (pg_name (i := 4) sc__law_sides.nd rfl (by first | exact Or.inl rfl | exact Or.inr rfl)) (pgs_cons (pg_name (i := 5) sc__law_sides.nd rfl (by first | exact Or.inl rfl | exact Or.inr rfl)) pgs_nil))))) (fun _ _ _ _ _ => pts_one (pt_cmpR (op_niK K hu) (pv 5) (pv 0) rfl)) (fun _ _ _ _ _ => (pe_tup (pa_cons (pv 3) (pa_cons (pv 4) pa_nil)))))))))
      (pss_one (ps_ret (pe_callB (cr_sortK K hu) (by rfl) T.n_sorted (by decide +kernel) (pa_cons (pv 1) pa_nil)))))), ?_⟩
    rintro ss A k ⟨i, rfl, hk⟩
    (try dsimp only [cxK] at hk); (try dsimp only [cxK])
    change Go _ _ _ [_, SV.no, SV.no, SV.no, SV.no, SV.no] _
    obtain ⟨hl, hk⟩ := hk
    walk_at "wp"
    refine go_forM (enc := cD) (xs := i) ?_
    refine iw_tup ?_
    walk_at "wp"
    refine ⟨rfl, fun j A1 S1 => A1 = A ∧ ∃ x, S1 = [.dat (.tuple (i.map cD)), .dat (.list ((lawpre (i.take j) i).map sD)), x, .no, .no, .no], ⟨rfl, _, rfl⟩, ?_, ?_⟩
    · rintro j c A1 S1 hc ⟨rfl, x, rfl⟩
      have hj := (List.getElem?_eq_some_iff.mp hc).1
      walk_at "wp"
      refine wp_lcM (enc := tD) (xs := around c) (by walk_at "to") (fun t => decide (¬ t.2.2 ∈ i)) (fun t => sD (t.1, t.2.1)) (sz64 rfl) ?_
      refine iw_list ?_
      walk_at "wp"
      refine ⟨rfl, fun t ht => ?_, ?_⟩
      · have s1 := cD_shaped t.2.2
        have s2 := cells_shaped i
        unfold LcItem
        walk_at "wp"
        refine ⟨by rw [in_cells]; simp, fun _ => ?_, fun _ => rfl⟩
        walk_at "wp"
        exact ⟨rfl, rfl⟩
      · refine rw_cat ?_ ⟨rfl, .dat (cD c), ?_⟩
        · have h1 := lawpre_len (i.take j) i
          have h2 : (i.take j).length = j := by rw [List.length_take]; omega
          have h3 := List.length_filter_le (fun t : Cl × Cl × Cl => decide (¬ t.2.2 ∈ i)) (around c)
          have h4 : (around c).length = 4 := rfl
          rw [List.length_map, List.length_map]
          exact sz (by omega)
        · rw [lawpre_take i i hc, List.map_append, List.map_map]
          rfl
    · rintro A1 S1 ⟨rfl, x, rfl⟩
      rw [List.take_length]
      walk_at "wp"
      refine cw_frz ?_
      refine cw_sortL (sides_alike _) (sides_sort _) (sides_depth _) fun p => ⟨p, _, A1.cells, rfl, .head, ?_⟩
      rw [← sortS_map]
      exact hk
def W__law_parted : PySem.W.Frag → List SV → Amb → KA → Prop := fun K ss A k => ∃ x : Addr × Nat × Nat, ss = [.ptr x.1, .dat (.list ((boxC x.2.1 x.2.2).map cD))] ∧ isDraw K A x.1 ∧ x.2.1 ≤ 7 ∧ x.2.2 ≤ 7 ∧ ∀ lots : List (List Cl), Parted x.2.1 x.2.2 lots → k A (.dat (.list (lots.map fun l => PyData.tuple (l.map cD))))
theorem ok__law_parted (T : Tx K mg) : FnOk P w K mg base CX0 2 T.f__law_parted T.d__law_parted ["draw", "box"] (spW K (W__law_parted K)) := by
  refine fn_go T.F__law_parted sc__law_parted (fun ss A k h => ?_) (fun cdv A outer s H E hr => ?_)
  · obtain ⟨i, rfl, _⟩ := h; rfl
  · have hu : (A.deeper (PyProof.Rows.envOfC "_law_parted" (defScope s__law_parted) s.heap.objs.size T.f__law_parted cdv)).units + 65 < cLine := by have := hr.un; omega
    have hu1 := hu_of hr
    refine ⟨_, (pss_cons (ps_set (i := 2) sc__law_parted.nd rfl (Or.inr rfl) (pe_op op_add pe_int (pe_call (ok__law_take T) (hr.mono (by decide)) (by rfl) T.g__law_take T.F__law_take.kp T.b__law_take .nil pass0 (pa_cons (pv 0) (pa_cons pe_int pa_nil)))))
      (pss_cons (ps_set (i := 3) sc__law_parted.nd rfl (Or.inr rfl) (pe_lc (own := [("cell", 5)]) rfl sc__law_parted.nd (pi_listK K (pv 1)) (blkOk_by (own := [("cell", 5)]) (N := NN__law_parted) (sc := (defScope s__law_parted)) (by decide +kernel)) (fun _ _ _ _ _ => (pg_name (i := 5) sc__law_parted.nd rfl (by first | exact Or.inl rfl | exact Or.inr rfl))) (fun _ _ _ _ _ => pts_nil) (fun _ _ _ _ _ => (pe_call (ok__law_take T) (hr.mono (by decide)) (by rfl) T.g__law_take T.F__law_take.kp T.b__law_take .nil pass0 (pa_cons (pv 0) (pa_cons (pe_op op_add (pv 2) pe_int) pa_nil))))))
      (pss_cons (ps_setLc (i := 4) (own := [("mark", 6)]) rfl sc__law_parted.nd rfl rfl (sw_true rfl rfl rfl (by decide +kernel)) (pi_range1 (by rfl) T.n_range (pa_cons (pv 2) pa_nil)) (blkOk_by (own := [("mark", 6)]) (N := NN__law_parted) (sc := (defScope s__law_parted)) (by decide +kernel)) (fun _ _ _ _ _ => (pg_name (i := 6) sc__law_parted.nd rfl (by first | exact Or.inl rfl | exact Or.inr rfl))) (fun _ _ _ _ _ => pts_nil) (fun _ _ _ _ _ => (pe_callTy (call_tupK K) (by rfl) T.n_tuple (by decide +kernel) (pa_cons (pe_lc (own := [("k", 8)]) rfl sc__law_parted.nd (pi_range1 (by rfl) T.n_range (pa_cons (pe_callB (call_lenK K) (by rfl) T.n_len (by decide +kernel) (pa_cons (pv 1) pa_nil)) pa_nil)) (blkOk_by (own := [("k", 8)]) (N := NN__law_parted) (sc := (relS _ (defScope s__law_parted))) (by decide +kernel)) (fun _ _ _ _ _ => (pg_name (i := 8) sc__law_parted.nd rfl (by first | exact Or.inl rfl | exact Or.inr rfl))) (fun _ _ _ _ _ => pts_one (pt_cmpR (op_eqK K hu) (pe_ix (ixK K) (pv 3) (pv 8) (fun _ _ => rfl)) (pv 6) (nomark _))) (fun _ _ _ _ _ => (pe_ix (ixK K) (pv 1) (pv 8) (fun _ _ => rfl)))) pa_nil))))
      (pss_one (ps_ret (pe_lc (own := [("lot", 7)]) rfl sc__law_parted.nd (pi_listK K (pv 4)) (blkOk_by (own := [("lot", 7)]) (N := NN__law_parted) (sc := (defScope s__law_parted)) (by decide +kernel)) (fun _ _ _ _ _ => (pg_name (i := 7) sc__law_parted.nd rfl (by first | exact Or.inl rfl | exact Or.inr rfl))) (fun _ _ _ _ _ => pts_one (pt_cmpR (op_neK K hu) (pv 7) (pe_tup pa_nil) (nomark _))) (fun _ _ _ _ _ => (pv 7)))))))), ?_⟩
    rintro ss A k ⟨⟨p, w, h⟩, rfl, hk⟩
    (try dsimp only [cxK] at hk); (try dsimp only [cxK])
    change Go _ _ _ [_, _, SV.no, SV.no, SV.no, SV.no, SV.no, SV.no, SV.no] _
    obtain ⟨hI, hw, hh, hk⟩ := hk
    walk_at "wp"
    refine ⟨(p, 3), rfl, hI, by simp, by simp, fun r r0 r1 => ?_⟩
    simp only at r1
    walk_at "wp"
    have hb := box_small hw hh
    have hbl := boxC_len w h
    refine wp_lc (by walk_at "to") ?_
    refine iw_list ?_
    walk_at "wp"
    refine ⟨fun i A1 acc => A1 = A ∧ i ≤ 49 ∧ ∃ ms : List Int, acc = (ms.map PyData.int).map .dat ∧ ms.length = i, ⟨rfl, by omega, [], rfl, rfl⟩, ?_, ?_⟩
    · intro i s hs A1 acc
      rintro ⟨rfl, hi, ms, rfl, hl⟩
      obtain ⟨c, hc, rfl⟩ := get_enc hs
      have hi2 := (List.getElem?_eq_some_iff.mp hc).1
      walk_at "wp"
      refine ⟨fun _ => ?_, fun h => by cases h⟩
      walk_at "wp"
      refine ⟨(p, 2 + r + 1), rfl, hI, by show (0 : Int) < 2 + r + 1; omega, by show 2 + r + 1 < (1073741824 : Int); omega, fun m m0 m1 => ?_⟩
      refine ⟨by rw [List.length_map, List.length_map]; exact szl (by omega), rfl, by omega, ms ++ [m], by simp, by simp [hl]⟩
    · rintro A1 acc ⟨rfl, hi, ms, rfl, hl⟩
      refine ⟨_, rfl, ?_⟩
      simp only [List.length_map] at hl
      walk_at "wp"
      have hr : 0 + 1 * (2 + r) = ((2 + r).toNat : Int) := by omega
      refine wp_lcA (enc := fun (j : Nat) => PyData.int (0 + (j : Int))) (xs := List.range (2 + r).toNat) (by walk_at "to") (fun m => .tuple ((picks (boxC w h) ms (0 + (m : Int))).map cD)) (by rw [List.length_range]; exact sz (by omega)) ?_
      refine iw_rng1 ?_
      walk_at "wp"
      refine ⟨by show -(2 ^ 62) ≤ 2 + r; omega, by show 2 + r < 2 ^ 62; omega, irange_enc 0 _, fun m hm => ?_, ?_⟩
      · walk_at "wp"
        refine wp_lcM (enc := fun (j : Nat) => PyData.int (0 + (j : Int))) (xs := List.range (boxC w h).length) (by walk_at "to") (fun k => decide (ms.getD k 0 = 0 + (m : Int))) (fun k => cD ((boxC w h).getD k (0, 0))) (by rw [List.length_range]; exact sz (by omega)) ?_
        refine iw_rng1 ?_
        walk_at "wp"
        refine cw_lenL ?_
        rw [List.length_map]
        walk_at "wp"
        refine ⟨by omega, by omega, by rw [Int.toNat_natCast]; exact irange_enc 0 _, fun k hk => ?_, ?_⟩
        · have hk := List.mem_range.mp hk
          have e1 : atI (ms.map PyData.int) (0 + (k : Int)) = some (.int (ms.getD k 0)) := by
            rw [Int.zero_add, atI_map]
            have : atI ms (k : Int) = some (ms.getD k 0) := by
              unfold atI ixN
              rw [if_pos (by omega), if_pos (by omega)]
              show ms[k]? = _
              rw [List.getD_eq_getElem?_getD, List.getElem?_eq_getElem (by omega)]
              rfl
            rw [this]
            rfl
          have e2 : atI ((boxC w h).map cD) (0 + (k : Int)) = some (cD ((boxC w h).getD k (0, 0))) := by
            rw [Int.zero_add, atI_map]
            have : atI (boxC w h) (k : Int) = some ((boxC w h).getD k (0, 0)) := by
              unfold atI ixN
              rw [if_pos (by omega), if_pos (by omega)]
              exact getD_nth hk
            rw [this]
            rfl
          unfold LcItem
          walk_at "wp"
          refine rw_ixL e1 ?_
          walk_at "wp"
          refine ⟨eq_int _ _, fun _ => ?_, fun _ => rfl⟩
          walk_at "wp"
          refine rw_ixL e2 ?_
          exact ⟨rfl, rfl⟩
        · walk_at "wp"
          refine cw_tupD (.inl rfl) ?_
          refine ⟨rfl, ?_⟩
          rw [picks, List.map_map]
          rfl
      · walk_at "wp"
        refine wp_lcM (enc := fun l : List Cl => .tuple (l.map cD)) (xs := (List.range (2 + r).toNat).map fun (m : Nat) => picks (boxC w h) ms (0 + (m : Int))) (by walk_at "to") (fun l => decide (¬ l = [])) (fun l => .tuple (l.map cD)) (by rw [List.length_map, List.length_range]; exact sz (by omega)) ?_
        refine iw_list ?_
        walk_at "wp"
        refine ⟨by rw [List.map_map, List.map_map, List.map_map]; rfl, fun l hl => ?_, hk _ (picks_parted hw hh ms _ (by omega))⟩
        have s1 := cells_shaped l
        unfold LcItem
        walk_at "wp"
        refine ⟨?_, fun _ => ?_, fun _ => rfl⟩
        · have e1 := eq_cells l []
          simp only [List.map_nil] at e1
          rw [e1]
          simp
        · walk_at "wp"
          exact ⟨rfl, rfl⟩
def W__law_beside : List SV → Amb → KA → Prop := fun ss A k => ∃ x : List Cl × List Cl, ss = [.dat (.tuple (x.1.map cD)), .dat (.tuple (x.2.map cD))] ∧ x.1.length ≤ 1000 ∧ k A (.dat (.list ((sortS (sidesP x.1 fun r => decide (r ∈ x.2))).map sD)))
theorem ok__law_beside (T : Tx K mg) : FnOk P w K mg base CX0 2 T.f__law_beside T.d__law_beside ["first", "last"] (spW K (W__law_beside)) := by
  refine fn_go T.F__law_beside sc__law_beside (fun ss A k h => ?_) (fun cdv A outer s H E hr => ?_)
  · obtain ⟨i, rfl, _⟩ := h; rfl
  · have hu : (A.deeper (PyProof.Rows.envOfC "_law_beside" (defScope s__law_beside) s.heap.objs.size T.f__law_beside cdv)).units + 65 < cLine := by have := hr.un; omega
    have hu1 := hu_of hr
    refine ⟨_, (pss_cons (ps_set (i := 2) sc__law_beside.nd rfl (Or.inl rfl) (pe_lst pa_nil))
      (pss_cons (ps_for PassesOwn.never rfl (pi_tupK K (pv 0)) (pg_name (i := 3) sc__law_beside.nd rfl (Or.inl rfl))
        (pss_one (ps_set (i := 2) sc__law_beside.nd rfl (Or.inl rfl) (pe_op op_cat (pv 2) (pe_lc (own := [("begin", 4), ("end", 5), ("right", 6)]) rfl sc__law_beside.nd (pi_listK K (pe_call (ok__law_around T) (hr.mono (by decide)) (by rfl) T.g__law_around T.F__law_around.kp T.b__law_around .nil pass0 (pa_cons (pv 3) pa_nil))) (blkOk_by (own := [("begin", 4), ("end", 5), ("right", 6)]) (N := NN__law_beside) (sc := (defScope s__law_beside)) (by decide +kernel)) (fun _ _ _ _ _ => (pg_tupK K 3 rfl (pgs_cons (pg_name (i := 4) sc__law_beside.nd rfl (by first | exact Or.inl rfl | exact Or.inr rfl)) (pgs_cons (pg_name (i := 5) sc__law_beside.nd rfl (by first | exact Or.inl rfl | exact Or.inr rfl)) (pgs_cons (pg_name (i := 6) sc__law_beside.nd rfl (by first | exact Or.inl rfl | exact Or.inr rfl)) pgs_nil))))) (fun _ _ _ _ _ => pts_one (pt_cmpR (op_inK K hu) (pv 6) (pv 1) rfl)) (fun _ _ _ _ _ => (pe_tup (pa_cons (pv 4) (pa_cons (pv 5) pa_nil)))))))))
      (pss_one (ps_ret (pe_callB (cr_sortK K hu) (by rfl) T.n_sorted (by decide +kernel) (pa_cons (pv 2) pa_nil)))))), ?_⟩
    rintro ss A k ⟨⟨one, other⟩, rfl, hk⟩
    (try dsimp only [cxK] at hk); (try dsimp only [cxK])
    change Go _ _ _ [_, _, SV.no, SV.no, SV.no, SV.no, SV.no] _
    obtain ⟨hl, hk⟩ := hk
    walk_at "wp"
    refine go_forM (enc := cD) (xs := one) ?_
    refine iw_tup ?_
    walk_at "wp"
    refine ⟨rfl, fun j A1 S1 => A1 = A ∧ ∃ x, S1 = [.dat (.tuple (one.map cD)), .dat (.tuple (other.map cD)), .dat (.list ((sidesP (one.take j) fun r => decide (r ∈ other)).map sD)), x, .no, .no, .no], ⟨rfl, _, rfl⟩, ?_, ?_⟩
    · rintro j c A1 S1 hc ⟨rfl, x, rfl⟩
      have hj := (List.getElem?_eq_some_iff.mp hc).1
      walk_at "wp"
      refine wp_lcM (enc := tD) (xs := around c) (by walk_at "to") (fun t => decide (t.2.2 ∈ other)) (fun t => sD (t.1, t.2.1)) (sz64 rfl) ?_
      refine iw_list ?_
      walk_at "wp"
      refine ⟨rfl, fun t ht => ?_, ?_⟩
      · have s1 := cD_shaped t.2.2
        have s2 := cells_shaped other
        unfold LcItem
        walk_at "wp"
        refine ⟨by rw [in_cells], fun _ => ?_, fun _ => rfl⟩
        walk_at "wp"
        exact ⟨rfl, rfl⟩
      · refine rw_cat ?_ ⟨rfl, .dat (cD c), ?_⟩
        · have h1 := sidesP_len (one.take j) fun r => decide (r ∈ other)
          have h2 : (one.take j).length = j := by rw [List.length_take]; omega
          have h3 := List.length_filter_le (fun t : Cl × Cl × Cl => decide (t.2.2 ∈ other)) (around c)
          have h4 : (around c).length = 4 := rfl
          rw [List.length_map, List.length_map]
          exact sz (by omega)
        · rw [sidesP_take one _ hc, List.map_append, List.map_map]
          rfl
    · rintro A1 S1 ⟨rfl, x, rfl⟩
      rw [List.take_length]
      walk_at "wp"
      refine cw_frz ?_
      refine cw_sortL (sides_alike _) (sides_sort _) (sides_depth _) fun p => ⟨p, _, A1.cells, rfl, .head, ?_⟩
      rw [← sortS_map]
      exact hk
theorem law_go (T : Tx K mg) : LawGo P w K mg T.f_law "law" s_law NN_law 5 63 := by
  intro base cdv s H hr
  have hu : (callerA.deeper (PyProof.Rows.envOfC "law" (defScope s_law) s.heap.objs.size T.f_law cdv)).units + 65 < cLine := by have := hr.un; omega
  have hu1 := hu_of hr
  have hg : (callerA.deeper (PyProof.Rows.envOfC "law" (defScope s_law) s.heap.objs.size T.f_law cdv)).guards = some [] := rfl
  refine ⟨_, (pss_cons (ps_set (i := 1) sc_law.nd rfl (Or.inl rfl) (pe_call (ok__law_begun T) (hr.mono (by decide)) (by rfl) T.g__law_begun T.F__law_begun.kp T.b__law_begun .nil pass0 (pa_cons (pv 0) pa_nil)))
      (pss_cons (ps_for PassesOwn.never rfl (pi_range1 (by rfl) T.n_range (pa_cons pe_int pa_nil)) (pg_name (i := 2) sc_law.nd rfl (Or.inl rfl))
        (pss_cons (ps_asg (pe_call (ok__law_size T) (hr.mono (by decide)) (by rfl) T.g__law_size T.F__law_size.kp T.b__law_size .nil pass0 (pa_cons (pv 1) pa_nil)) (pg_tupK K 2 rfl (pgs_cons (pg_name (i := 3) sc_law.nd rfl (Or.inl rfl)) (pgs_cons (pg_name (i := 4) sc_law.nd rfl (Or.inl rfl)) pgs_nil))))
          (pss_cons (ps_set (i := 5) sc_law.nd rfl (Or.inr rfl) (pe_call (ok__law_box T) (hr.mono (by decide)) (by rfl) T.g__law_box T.F__law_box.kp T.b__law_box .nil pass0 (pa_cons (pv 1) (pa_cons (pv 3) (pa_cons (pv 4) pa_nil)))))
          (pss_cons (ps_set (i := 6) sc_law.nd rfl (Or.inl rfl) (pe_call (ok__law_parted T) (hr.mono (by decide)) (by rfl) T.g__law_parted T.F__law_parted.kp T.b__law_parted .nil pass0 (pa_cons (pv 1) (pa_cons (pv 5) pa_nil))))
          (pss_cons (ps_set (i := 7) sc_law.nd rfl (Or.inr rfl) (pe_callB (call_sumLK K rfl) (by rfl) T.n_sum (by decide +kernel) (pa_cons (pe_lc (own := [("lot", 15)]) rfl sc_law.nd (pi_listK K (pv 6)) (blkOk_by (own := [("lot", 15)]) (N := NN_law) (sc := (defScope s_law)) (by decide +kernel)) (fun _ _ _ _ _ => (pg_name (i := 15) sc_law.nd rfl (by first | exact Or.inl rfl | exact Or.inr rfl))) (fun _ _ _ _ _ => pts_nil) (fun _ _ _ _ _ => (pe_callTy (call_listK K) (by rfl) T.n_list (by decide +kernel) (pa_cons (pv 15) pa_nil)))) (pa_cons (pe_lst pa_nil) pa_nil))))
          (pss_cons (ps_set (i := 8) sc_law.nd rfl (Or.inl rfl) (pe_callTy (call_tupK K) (by rfl) T.n_tuple (by decide +kernel) (pa_cons (pe_lc (own := [("cell", 16)]) rfl sc_law.nd (pi_listK K (pv 5)) (blkOk_by (own := [("cell", 16)]) (N := NN_law) (sc := (defScope s_law)) (by decide +kernel)) (fun _ _ _ _ _ => (pg_name (i := 16) sc_law.nd rfl (by first | exact Or.inl rfl | exact Or.inr rfl))) (fun _ _ _ _ _ => pts_one (pt_cmpR (op_niK K hu) (pv 16) (pv 7) rfl)) (fun _ _ _ _ _ => (pv 16))) pa_nil)))
          (pss_one (ps_for PassesOwn.never rfl (pi_listK K (pv 6)) (pg_name (i := 9) sc_law.nd rfl (Or.inl rfl))
            (pss_cons (ps_setLc (i := 10) (own := [("side", 17)]) rfl sc_law.nd rfl rfl (sw_true rfl rfl rfl (by decide +kernel)) (pi_listK K (pe_call (ok__law_sides T) (hr.mono (by decide)) (by rfl) T.g__law_sides T.F__law_sides.kp T.b__law_sides .nil pass0 (pa_cons (pv 9) pa_nil))) (blkOk_by (own := [("side", 17)]) (N := NN_law) (sc := (defScope s_law)) (by decide +kernel)) (fun _ _ _ _ _ => (pg_name (i := 17) sc_law.nd rfl (by first | exact Or.inl rfl | exact Or.inr rfl))) (fun _ _ _ _ _ => pts_one (pt_cmpR (op_inK K hu) (pv 17) (pe_call (ok__law_sides T) (hr.mono (by decide)) (by rfl) T.g__law_sides T.F__law_sides.kp T.b__law_sides .nil pass0 (pa_cons (pe_callTy (call_tupK K) (by rfl) T.n_tuple (by decide +kernel) (pa_cons (pv 5) pa_nil)) pa_nil)) rfl)) (fun _ _ _ _ _ => (pv 17)))
              (pss_cons (ps_set (i := 11) sc_law.nd rfl (Or.inl rfl) (pe_op op_cat (pv 10) (pe_call (ok__law_beside T) (hr.mono (by decide)) (by rfl) T.g__law_beside T.F__law_beside.kp T.b__law_beside .nil pass0 (pa_cons (pv 9) (pa_cons (pv 8) pa_nil)))))
              (pss_cons (ps_for PassesOwn.never rfl (pi_listK K (pv 6)) (pg_name (i := 12) sc_law.nd rfl (Or.inl rfl))
                (pss_one (ps_if (pt_cmpR (op_neK K hu) (pv 12) (pv 9) (nomark _))
                    (pss_cons (ps_set (i := 13) sc_law.nd rfl (Or.inl rfl) (pe_ifExp (pt_cmpR (op_eqK K hu) (pe_call (ok__law_take T) (hr.mono (by decide)) (by rfl) T.g__law_take T.F__law_take.kp T.b__law_take .nil pass0 (pa_cons (pv 1) (pa_cons pe_int pa_nil))) pe_int (nomark _)) (pe_callP0 (ok_between T) (hr.mono (by decide)) (by rfl) T.g_between T.F_between.kp T.kb_between_0_other_one pass0 (pk_cons (pv 12) (pk_cons (pv 9) pk_nil))) (pe_call (ok_between T) (hr.mono (by decide)) (by rfl) T.g_between T.F_between.kp T.b_between .nil pass0 (pa_cons (pv 9) (pa_cons (pv 12) pa_nil)))))
                      (pss_cons (ps_setLc (i := 14) (own := [("begin", 18), ("end", 19)]) rfl sc_law.nd rfl rfl (sw_true rfl rfl rfl (by decide +kernel)) (pi_listK K (pe_call (ok_between T) (hr.mono (by decide)) (by rfl) T.g_between T.F_between.kp T.b_between .nil pass0 (pa_cons (pv 12) (pa_cons (pv 9) pa_nil)))) (blkOk_by (own := [("begin", 18), ("end", 19)]) (N := NN_law) (sc := (defScope s_law)) (by decide +kernel)) (fun _ _ _ _ _ => (pg_tupK K 2 rfl (pgs_cons (pg_name (i := 18) sc_law.nd rfl (by first | exact Or.inl rfl | exact Or.inr rfl)) (pgs_cons (pg_name (i := 19) sc_law.nd rfl (by first | exact Or.inl rfl | exact Or.inr rfl)) pgs_nil)))) (fun _ _ _ _ _ => pts_nil) (fun _ _ _ _ _ => (pe_tup (pa_cons (pv 19) (pa_cons (pv 18) pa_nil)))))
                      (pss_cons (ps_if (PW.pt (pw_or (pt_cmpR op_ne (pe_callB (cr_reprK K hu hg) (by rfl) T.n_repr (by decide +kernel) (pa_cons (pv 13) pa_nil)) (pe_callB (cr_reprK K hu hg) (by rfl) T.n_repr (by decide +kernel) (pa_cons (pe_call (ok__law_beside T) (hr.mono (by decide)) (by rfl) T.g__law_beside T.F__law_beside.kp T.b__law_beside .nil pass0 (pa_cons (pv 9) (pa_cons (pv 12) pa_nil))) pa_nil)) (nomark _)) (pw_or1 (pt_cmpR (op_neK K hu) (pe_callB (cr_sortK K hu) (by rfl) T.n_sorted (by decide +kernel) (pa_cons (pv 14) pa_nil)) (pv 13) (nomark _)))))
                        (pss_one (ps_ret pe_bl))
                        pss_nil)
                      (pss_one (ps_set (i := 11) sc_law.nd rfl (Or.inl rfl) (pe_op op_cat (pv 11) (pv 13)))))))
                    pss_nil)))
              (pss_one (ps_if (pt_cmpR (op_neK K hu) (pe_callB (cr_sortK K hu) (by rfl) T.n_sorted (by decide +kernel) (pa_cons (pv 11) pa_nil)) (pe_call (ok_sides T) (hr.mono (by decide)) (by rfl) T.g_sides T.F_sides.kp T.b_sides .nil pass0 (pa_cons (pv 9) pa_nil)) (nomark _))
                (pss_one (ps_ret pe_bl))
                pss_nil)))))))))))))
      (pss_one (ps_ret pe_bl)))), ?_⟩
  intro ns hns hbits
  try dsimp only [cxK]
  change Go _ _ _ [_, SV.no, SV.no, SV.no, SV.no, SV.no, SV.no, SV.no, SV.no, SV.no, SV.no, SV.no, SV.no, SV.no, SV.no, SV.no, SV.no, SV.no, SV.no, SV.no] _
  walk_at "wp"
  intro p q
  walk_at "wp1"
  refine go_seal (ps := [p, q]) (C := drawOk q ns) (cs := [.dk (drawDK q 0 0 0 91), .lst (numsSV ns)]) (l := []) ⟨0, 0, 0, 91, rfl, by decide, by decide, by decide, by decide, by decide⟩ rfl ?_
  have hI : isDraw K ⟨Blk.of K [p, q] (drawOk q ns), []⟩ p := ⟨q, ns, hns, rfl⟩
  refine go_forR (n := 3) ?_
  refine iw_rng1 ?_
  walk_at "wp"
  refine ⟨by decide, by decide, rfl, fun i A1 S1 => A1 = ⟨Blk.of K [p, q] (drawOk q ns), []⟩ ∧ ∃ x2 x3 x4 x5 x6 x7 x8 x9 x10 x11 x12 x13 x14, S1 = [.scr ns, .ptr p, x2, x3, x4, x5, x6, x7, x8, x9, x10, x11, x12, x13, x14, .no, .no, .no, .no, .no], ⟨rfl, _, _, _, _, _, _, _, _, _, _, _, _, _, rfl⟩, ?_, ?_⟩
  · rintro i A1 S1 hi ⟨rfl, x2, x3, x4, x5, x6, x7, x8, x9, x10, x11, x12, x13, x14, rfl⟩
    walk_at "wp"
    refine ⟨hI, fun w h w1 w2 h1 h2 => ?_⟩
    walk_at "wp"
    refine ⟨(p, w, h), rfl, w2, h2, ?_⟩
    walk_at "wp"
    refine ⟨(p, w, h), rfl, hI, w2, h2, fun lots P => ?_⟩
    have P : Parted w h lots := P
    walk_at "wp"
    refine wp_lcA (enc := fun l : List Cl => .tuple (l.map cD)) (xs := lots) (by walk_at "to") (fun l => .list (l.map cD)) (sz (by have := P.len; omega)) ?_
    refine iw_list ?_
    walk_at "wp"
    refine ⟨rfl, fun l hl => ?_, ?_⟩
    · walk_at "wp"
      refine cw_frz ?_
      exact cw_listD (.inr rfl) fun p => ⟨p, _, _, rfl, .head, rfl, rfl⟩
    walk_at "wp"
    have e1 : lots.map (fun l => PyData.list (l.map cD)) = (lots.map fun l => l.map cD).map PyData.list := by rw [List.map_map]; rfl
    rw [e1]
    refine cw_sumL (sz (Nat.le_trans (lots_sum P) (by decide))) ?_
    rw [← List.map_flatten]
    walk_at "wp"
    have hb := box_small w2 h2
    have hbl := boxC_len w h
    refine wp_lcM (enc := cD) (xs := boxC w h) (by walk_at "to") (fun c => decide (¬ c ∈ lots.flatten)) cD (sz (by omega)) ?_
    refine iw_list ?_
    walk_at "wp"
    refine ⟨rfl, fun c hc => ?_, ?_⟩
    · have s1 := cD_shaped c
      have s2 := cells_shaped lots.flatten
      unfold LcItem
      walk_at "wp"
      refine ⟨ni_cells _ _, fun _ => ?_, fun _ => rfl⟩
      walk_at "wp"
      exact ⟨rfl, rfl⟩
    walk_at "wp"
    refine cw_tupD (.inl rfl) ?_
    change Go _ _ _ [_, _, _, _, _, _, _, _, .dat (.tuple ((freeC w h lots).map cD)), _, _, _, _, _, _, _, _, _, _, _] _
    refine go_forM (enc := fun l : List Cl => .tuple (l.map cD)) (xs := lots) ?_
    refine iw_list ?_
    walk_at "wp"
    refine ⟨rfl, fun j A1 S1 => A1 = ⟨Blk.of K [p, q] (drawOk q ns), []⟩ ∧ ∃ x9 x10 x11 x12 x13 x14, S1 = [.scr ns, .ptr p, .dat (.int i), .dat (.int w), .dat (.int h), .dat (.list ((boxC w h).map cD)), .dat (.list (lots.map fun l => .tuple (l.map cD))), .dat (.list (lots.flatten.map cD)), .dat (.tuple ((freeC w h lots).map cD)), x9, x10, x11, x12, x13, x14, .no, .no, .no, .no, .no], ⟨rfl, _, _, _, _, _, _, rfl⟩, ?_, ?_⟩
    · rintro j first A1 S1 hj0 ⟨rfl, x9, x10, x11, x12, x13, x14, rfl⟩
      have hf : first ∈ lots := List.mem_of_getElem? hj0
      have fl := P.sm _ hf
      have sdl : ∀ pp, (sidesP first pp).length ≤ 196 := fun pp => by have := sidesP_len first pp; omega
      walk_at "wp"
      refine wp_lcM (enc := sD) (xs := sortS (lawpre first first)) (by walk_at "to") (fun s => decide (s ∈ sortS (lawpre (boxC w h) (boxC w h)))) sD (by rw [(sortS_perm _).length_eq]; have := lawpre_len first first; exact sz (by omega)) ?_
      refine iw_list ?_
      walk_at "wp"
      refine ⟨by omega, ?_⟩
      walk_at "wp"
      refine ⟨rfl, fun s hs => ?_, ?_⟩
      · have s1 := sD_shaped s
        have s2 := sdsT_shaped (sortS (lawpre (boxC w h) (boxC w h)))
        unfold LcItem
        walk_at "wp"
        refine cw_tupD (.inl rfl) ?_
        walk_at "wp"
        refine ⟨by omega, ?_⟩
        walk_at "wp"
        refine ⟨in_sides _ _, fun _ => ?_, fun _ => rfl⟩
        walk_at "wp"
        exact ⟨rfl, rfl⟩
      walk_at "wp"
      refine ⟨(first, freeC w h lots), rfl, by show first.length ≤ 1000; omega, ?_⟩
      refine rw_cat ?_ ?_
      · rw [List.length_map, List.length_map, (sortS_perm _).length_eq]
        have h3 := List.length_filter_le (fun s => decide (s ∈ sortS (lawpre (boxC w h) (boxC w h)))) (sortS (lawpre first first))
        rw [(sortS_perm _).length_eq] at h3
        have h4 := lawpre_len first first
        have h5 := sdl fun r => decide (r ∈ freeC w h lots)
        exact sz (by dsimp only; omega)
      rw [← List.map_append]
      have hst := sum_start P hf
      generalize ((sortS (lawpre first first)).filter fun s => decide (s ∈ sortS (lawpre (boxC w h) (boxC w h)))) = bey at hst ⊢
      dsimp only
      generalize bey ++ sortS (sidesP first fun r => decide (r ∈ freeC w h lots)) = E0 at hst ⊢
      walk_at "wp"
      refine go_forM (enc := fun l : List Cl => .tuple (l.map cD)) (xs := lots) ?_
      refine iw_list ?_
      walk_at "wp"
      refine ⟨rfl, fun k A1 S1 => A1 = ⟨Blk.of K [p, q] (drawOk q ns), []⟩ ∧ ∃ (E : List Sd) (x12 x13 x14 : SV), S1 = [.scr ns, .ptr p, .dat (.int i), .dat (.int w), .dat (.int h), .dat (.list ((boxC w h).map cD)), .dat (.list (lots.map fun l => .tuple (l.map cD))), .dat (.list (lots.flatten.map cD)), .dat (.tuple ((freeC w h lots).map cD)), .dat (.tuple (first.map cD)), .dat (.list (bey.map sD)), .dat (.list (E.map sD)), x12, x13, x14, .no, .no, .no, .no, .no] ∧ E.Perm (sidesP first (inSome w h lots (lots.take k) first)), ⟨rfl, _, _, _, _, rfl, hst⟩, ?_, ?_⟩
      · rintro k last A1 S1 hk0 ⟨rfl, E, x12, x13, x14, rfl, hE⟩
        have hl : last ∈ lots := List.mem_of_getElem? hk0
        have ll := P.sm _ hl
        have s1 := cells_shaped first
        have s2 := cells_shaped last
        walk_at "wp"
        rw [eq_cells]
        refine ⟨fun e => ?_, fun e => ?_⟩
        · have hne : last ≠ first := by simpa using e
          walk_at "wp"
          refine ⟨(p, 3), rfl, hI, by simp, by simp, fun r _ _ => ?_⟩
          walk_at "wp"
          refine wp_join (fun A1 s => A1 = ⟨Blk.of K [p, q] (drawOk q ns), []⟩ ∧ s = .dat (.list ((sortS (sidesP first fun r => decide (r ∈ last))).map sD))) (fun _ => ?_) (fun _ => ?_) ?_
          · walk_at "wp"
            refine ⟨rfl, rfl, (first, last), rfl, by show first.length ≤ 1000; omega, ?_⟩
            exact ⟨rfl, by dsimp only; rw [between_eq P hf hl hne]⟩
          · walk_at "wp"
            refine ⟨(first, last), rfl, by show first.length ≤ 1000; omega, ?_⟩
            exact ⟨rfl, by dsimp only; rw [between_eq P hf hl hne]⟩
          rintro A1 s ⟨rfl, rfl⟩
          walk_at "wp"
          refine wp_lcA (enc := sD) (xs := (sortS (presides last)).filter fun s => decide (rightOf s ∈ first)) (by walk_at "to") (fun s => sD (flipS s)) ?_ ?_
          · have h3 := List.length_filter_le (fun s => decide (rightOf s ∈ first)) (sortS (presides last))
            rw [(sortS_perm _).length_eq] at h3
            have h4 := presides_len last
            exact sz (by omega)
          refine iw_list ?_
          walk_at "wp"
          refine ⟨(last, first), rfl, by show last.length ≤ 1000; omega, ?_⟩
          refine ⟨_, rfl, rfl, fun s hs => ?_, ?_⟩
          · walk_at "wp"
            exact ⟨rfl, rfl⟩
          walk_at "wp"
          have eb : (((sortS (presides last)).filter fun s => decide (rightOf s ∈ first)).map fun s => sD (flipS s)) = (((sortS (presides last)).filter fun s => decide (rightOf s ∈ first)).map flipS).map sD := by rw [List.map_map]; rfl
          rw [eb]
          have hbk := back_eq P hf hl hne
          generalize (((sortS (presides last)).filter fun s => decide (rightOf s ∈ first)).map flipS) = back at hbk ⊢
          obtain ⟨q1, q2, q3⟩ := sds_small (l := sidesP first fun r => decide (r ∈ last)) (by have := sdl fun r => decide (r ∈ last); omega) (first_small P w2 h2 hf _)
          refine wpt_or ?_
          walk_at "wp"
          refine cw_reprSL q1 q2 q3 ?_
          walk_at "wp"
          refine ⟨(first, last), rfl, by show first.length ≤ 1000; omega, ?_⟩
          walk_at "wp"
          refine cw_reprSL q1 q2 q3 ?_
          walk_at "wp"
          refine ⟨fun e => absurd e (by simp), fun _ => ?_⟩
          have s3 := sdsL_shaped (sortS (sidesP first fun r => decide (r ∈ last)))
          walk_at "wp"
          refine cw_frz ?_
          refine cw_sortL (sides_alike _) (sides_sort _) (sides_depth _) fun z => ⟨z, _, _, rfl, .head, ?_⟩
          rw [← sortS_map, hbk]
          walk_at "wp"
          rw [eq_sides]
          refine ⟨fun e => absurd e (by simp), fun _ => ?_⟩
          walk_at "wp"
          refine rw_cat ?_ ?_
          · rw [List.length_map, List.length_map, (sortS_perm _).length_eq, hE.length_eq]
            have h5 := sdl fun r => decide (r ∈ last)
            have h6 := sdl (inSome w h lots (lots.take k) first)
            exact sz (by omega)
          rw [← List.map_append]
          exact ⟨rfl, _, _, _, _, rfl, sum_step P hf hk0 hne hE⟩
        · have he : last = first := by simpa using e
          walk_at "wp"
          exact ⟨rfl, _, _, _, _, rfl, sum_skip hk0 he hE⟩
      · rintro A1 S1 ⟨rfl, E, x12, x13, x14, rfl, hE⟩
        rw [List.take_length] at hE
        have s3 := sdsL_shaped (sortS E)
        have s4 := sdsL_shaped (sortS (presides first))
        walk_at "wp"
        refine cw_frz ?_
        refine cw_sortL (sides_alike _) (sides_sort _) (sides_depth _) fun z => ⟨z, _, _, rfl, .head, ?_⟩
        rw [← sortS_map]
        walk_at "wp"
        refine ⟨by omega, ?_⟩
        walk_at "wp"
        rw [eq_sides, sum_done P hf hE]
        refine ⟨fun e => absurd e (by simp), fun _ => ?_⟩
        walk_at "wp"
        exact ⟨rfl, _, _, _, _, _, _, rfl⟩
    · rintro A1 S1 ⟨rfl, x9, x10, x11, x12, x13, x14, rfl⟩
      walk_at "wp"
      exact ⟨rfl, _, _, _, _, _, _, _, _, _, _, _, _, _, rfl⟩
  · rintro A1 S1 ⟨rfl, x2, x3, x4, x5, x6, x7, x8, x9, x10, x11, x12, x13, x14, rfl⟩
    walk_at "wp"
    rfl
end
theorem all_mk {l : PySem.W.OpenLaw} {w : World} {K : PySem.W.Frag} {h : Heap} {mg : Str → Option Value} {fa f_going f_left_of f_right_of f_round_cell f_sides f_between f__law_begun f__law_take f__law_box f__law_size f__law_around f__law_sides f__law_parted f__law_beside f_law : Addr} (X : K.In h) (G : h.Ns mainGlobals mg) (hfa : mg "law" = some (.ref fa))
    {od_going an_going : Option Addr} {sl_going : Array (Option Value)} {oc_going kV_going dc_going pm_going cd_going ct_going : Value}
    (a_going : PySem.W.nsIn K mainGlobals "going" = some (some (.ref f_going))) (l_going : K.lookup f_going = some ⟨oc_going, od_going, .func (PySem.W.fnOf "going" "going" (defArgs s_going) (defBody s_going) (defScope s_going) .none kV_going dc_going pm_going an_going cd_going ct_going), sl_going⟩) (c_going : PySem.W.codeIn K cd_going "going" = true) (k_going : PySem.W.keepIn K (.ref f_going) = true)
    {od_left_of an_left_of : Option Addr} {sl_left_of : Array (Option Value)} {oc_left_of kV_left_of dc_left_of pm_left_of cd_left_of ct_left_of : Value}
    (a_left_of : PySem.W.nsIn K mainGlobals "left_of" = some (some (.ref f_left_of))) (l_left_of : K.lookup f_left_of = some ⟨oc_left_of, od_left_of, .func (PySem.W.fnOf "left_of" "left_of" (defArgs s_left_of) (defBody s_left_of) (defScope s_left_of) .none kV_left_of dc_left_of pm_left_of an_left_of cd_left_of ct_left_of), sl_left_of⟩) (c_left_of : PySem.W.codeIn K cd_left_of "left_of" = true) (k_left_of : PySem.W.keepIn K (.ref f_left_of) = true)
    {od_right_of an_right_of : Option Addr} {sl_right_of : Array (Option Value)} {oc_right_of kV_right_of dc_right_of pm_right_of cd_right_of ct_right_of : Value}
    (a_right_of : PySem.W.nsIn K mainGlobals "right_of" = some (some (.ref f_right_of))) (l_right_of : K.lookup f_right_of = some ⟨oc_right_of, od_right_of, .func (PySem.W.fnOf "right_of" "right_of" (defArgs s_right_of) (defBody s_right_of) (defScope s_right_of) .none kV_right_of dc_right_of pm_right_of an_right_of cd_right_of ct_right_of), sl_right_of⟩) (c_right_of : PySem.W.codeIn K cd_right_of "right_of" = true) (k_right_of : PySem.W.keepIn K (.ref f_right_of) = true)
    {od_round_cell an_round_cell : Option Addr} {sl_round_cell : Array (Option Value)} {oc_round_cell kV_round_cell dc_round_cell pm_round_cell cd_round_cell ct_round_cell : Value}
    (a_round_cell : PySem.W.nsIn K mainGlobals "round_cell" = some (some (.ref f_round_cell))) (l_round_cell : K.lookup f_round_cell = some ⟨oc_round_cell, od_round_cell, .func (PySem.W.fnOf "round_cell" "round_cell" (defArgs s_round_cell) (defBody s_round_cell) (defScope s_round_cell) .none kV_round_cell dc_round_cell pm_round_cell an_round_cell cd_round_cell ct_round_cell), sl_round_cell⟩) (c_round_cell : PySem.W.codeIn K cd_round_cell "round_cell" = true) (k_round_cell : PySem.W.keepIn K (.ref f_round_cell) = true)
    {od_sides an_sides : Option Addr} {sl_sides : Array (Option Value)} {oc_sides kV_sides dc_sides pm_sides cd_sides ct_sides : Value}
    (a_sides : PySem.W.nsIn K mainGlobals "sides" = some (some (.ref f_sides))) (l_sides : K.lookup f_sides = some ⟨oc_sides, od_sides, .func (PySem.W.fnOf "sides" "sides" (defArgs s_sides) (defBody s_sides) (defScope s_sides) .none kV_sides dc_sides pm_sides an_sides cd_sides ct_sides), sl_sides⟩) (c_sides : PySem.W.codeIn K cd_sides "sides" = true) (k_sides : PySem.W.keepIn K (.ref f_sides) = true)
    {od_between an_between : Option Addr} {sl_between : Array (Option Value)} {oc_between kV_between dc_between pm_between cd_between ct_between : Value}
    (a_between : PySem.W.nsIn K mainGlobals "between" = some (some (.ref f_between))) (l_between : K.lookup f_between = some ⟨oc_between, od_between, .func (PySem.W.fnOf "between" "between" (defArgs s_between) (defBody s_between) (defScope s_between) .none kV_between dc_between pm_between an_between cd_between ct_between), sl_between⟩) (c_between : PySem.W.codeIn K cd_between "between" = true) (k_between : PySem.W.keepIn K (.ref f_between) = true)
    {od__law_begun an__law_begun : Option Addr} {sl__law_begun : Array (Option Value)} {oc__law_begun kV__law_begun dc__law_begun pm__law_begun cd__law_begun ct__law_begun : Value}
    (a__law_begun : PySem.W.nsIn K mainGlobals "_law_begun" = some (some (.ref f__law_begun))) (l__law_begun : K.lookup f__law_begun = some ⟨oc__law_begun, od__law_begun, .func (PySem.W.fnOf "_law_begun" "_law_begun" (defArgs s__law_begun) (defBody s__law_begun) (defScope s__law_begun) .none kV__law_begun dc__law_begun pm__law_begun an__law_begun cd__law_begun ct__law_begun), sl__law_begun⟩) (c__law_begun : PySem.W.codeIn K cd__law_begun "_law_begun" = true) (k__law_begun : PySem.W.keepIn K (.ref f__law_begun) = true)
    {od__law_take an__law_take : Option Addr} {sl__law_take : Array (Option Value)} {oc__law_take kV__law_take dc__law_take pm__law_take cd__law_take ct__law_take : Value}
    (a__law_take : PySem.W.nsIn K mainGlobals "_law_take" = some (some (.ref f__law_take))) (l__law_take : K.lookup f__law_take = some ⟨oc__law_take, od__law_take, .func (PySem.W.fnOf "_law_take" "_law_take" (defArgs s__law_take) (defBody s__law_take) (defScope s__law_take) .none kV__law_take dc__law_take pm__law_take an__law_take cd__law_take ct__law_take), sl__law_take⟩) (c__law_take : PySem.W.codeIn K cd__law_take "_law_take" = true) (k__law_take : PySem.W.keepIn K (.ref f__law_take) = true)
    {od__law_box an__law_box : Option Addr} {sl__law_box : Array (Option Value)} {oc__law_box kV__law_box dc__law_box pm__law_box cd__law_box ct__law_box : Value}
    (a__law_box : PySem.W.nsIn K mainGlobals "_law_box" = some (some (.ref f__law_box))) (l__law_box : K.lookup f__law_box = some ⟨oc__law_box, od__law_box, .func (PySem.W.fnOf "_law_box" "_law_box" (defArgs s__law_box) (defBody s__law_box) (defScope s__law_box) .none kV__law_box dc__law_box pm__law_box an__law_box cd__law_box ct__law_box), sl__law_box⟩) (c__law_box : PySem.W.codeIn K cd__law_box "_law_box" = true) (k__law_box : PySem.W.keepIn K (.ref f__law_box) = true)
    {od__law_size an__law_size : Option Addr} {sl__law_size : Array (Option Value)} {oc__law_size kV__law_size dc__law_size pm__law_size cd__law_size ct__law_size : Value}
    (a__law_size : PySem.W.nsIn K mainGlobals "_law_size" = some (some (.ref f__law_size))) (l__law_size : K.lookup f__law_size = some ⟨oc__law_size, od__law_size, .func (PySem.W.fnOf "_law_size" "_law_size" (defArgs s__law_size) (defBody s__law_size) (defScope s__law_size) .none kV__law_size dc__law_size pm__law_size an__law_size cd__law_size ct__law_size), sl__law_size⟩) (c__law_size : PySem.W.codeIn K cd__law_size "_law_size" = true) (k__law_size : PySem.W.keepIn K (.ref f__law_size) = true)
    {od__law_around an__law_around : Option Addr} {sl__law_around : Array (Option Value)} {oc__law_around kV__law_around dc__law_around pm__law_around cd__law_around ct__law_around : Value}
    (a__law_around : PySem.W.nsIn K mainGlobals "_law_around" = some (some (.ref f__law_around))) (l__law_around : K.lookup f__law_around = some ⟨oc__law_around, od__law_around, .func (PySem.W.fnOf "_law_around" "_law_around" (defArgs s__law_around) (defBody s__law_around) (defScope s__law_around) .none kV__law_around dc__law_around pm__law_around an__law_around cd__law_around ct__law_around), sl__law_around⟩) (c__law_around : PySem.W.codeIn K cd__law_around "_law_around" = true) (k__law_around : PySem.W.keepIn K (.ref f__law_around) = true)
    {od__law_sides an__law_sides : Option Addr} {sl__law_sides : Array (Option Value)} {oc__law_sides kV__law_sides dc__law_sides pm__law_sides cd__law_sides ct__law_sides : Value}
    (a__law_sides : PySem.W.nsIn K mainGlobals "_law_sides" = some (some (.ref f__law_sides))) (l__law_sides : K.lookup f__law_sides = some ⟨oc__law_sides, od__law_sides, .func (PySem.W.fnOf "_law_sides" "_law_sides" (defArgs s__law_sides) (defBody s__law_sides) (defScope s__law_sides) .none kV__law_sides dc__law_sides pm__law_sides an__law_sides cd__law_sides ct__law_sides), sl__law_sides⟩) (c__law_sides : PySem.W.codeIn K cd__law_sides "_law_sides" = true) (k__law_sides : PySem.W.keepIn K (.ref f__law_sides) = true)
    {od__law_parted an__law_parted : Option Addr} {sl__law_parted : Array (Option Value)} {oc__law_parted kV__law_parted dc__law_parted pm__law_parted cd__law_parted ct__law_parted : Value}
    (a__law_parted : PySem.W.nsIn K mainGlobals "_law_parted" = some (some (.ref f__law_parted))) (l__law_parted : K.lookup f__law_parted = some ⟨oc__law_parted, od__law_parted, .func (PySem.W.fnOf "_law_parted" "_law_parted" (defArgs s__law_parted) (defBody s__law_parted) (defScope s__law_parted) .none kV__law_parted dc__law_parted pm__law_parted an__law_parted cd__law_parted ct__law_parted), sl__law_parted⟩) (c__law_parted : PySem.W.codeIn K cd__law_parted "_law_parted" = true) (k__law_parted : PySem.W.keepIn K (.ref f__law_parted) = true)
    {od__law_beside an__law_beside : Option Addr} {sl__law_beside : Array (Option Value)} {oc__law_beside kV__law_beside dc__law_beside pm__law_beside cd__law_beside ct__law_beside : Value}
    (a__law_beside : PySem.W.nsIn K mainGlobals "_law_beside" = some (some (.ref f__law_beside))) (l__law_beside : K.lookup f__law_beside = some ⟨oc__law_beside, od__law_beside, .func (PySem.W.fnOf "_law_beside" "_law_beside" (defArgs s__law_beside) (defBody s__law_beside) (defScope s__law_beside) .none kV__law_beside dc__law_beside pm__law_beside an__law_beside cd__law_beside ct__law_beside), sl__law_beside⟩) (c__law_beside : PySem.W.codeIn K cd__law_beside "_law_beside" = true) (k__law_beside : PySem.W.keepIn K (.ref f__law_beside) = true)
    {od_law an_law : Option Addr} {sl_law : Array (Option Value)} {oc_law kV_law dc_law pm_law cd_law ct_law : Value}
    (a_law : PySem.W.nsIn K mainGlobals "law" = some (some (.ref f_law))) (l_law : K.lookup f_law = some ⟨oc_law, od_law, .func (PySem.W.fnOf "law" "law" (defArgs s_law) (defBody s_law) (defScope s_law) .none kV_law dc_law pm_law an_law cd_law ct_law), sl_law⟩) (c_law : PySem.W.codeIn K cd_law "law" = true) (k_law : PySem.W.keepIn K (.ref f_law) = true)
    (z_len : PySem.W.nsIn K mainGlobals "len" = some none)
    (z_list : PySem.W.nsIn K mainGlobals "list" = some none)
    (z_range : PySem.W.nsIn K mainGlobals "range" = some none)
    (z_repr : PySem.W.nsIn K mainGlobals "repr" = some none)
    (z_sorted : PySem.W.nsIn K mainGlobals "sorted" = some none)
    (z_sum : PySem.W.nsIn K mainGlobals "sum" = some none)
    (z_tuple : PySem.W.nsIn K mainGlobals "tuple" = some none)
    {a_EAST : Addr} {do_EAST : Option Addr} {it_EAST : Array Value} {en_EAST : Nat} {so_EAST : Array (Option Value)} (x_EAST : PySem.W.nsIn K mainGlobals "EAST" = some (some (.ref a_EAST))) (y_EAST : K.lookup a_EAST = some ⟨.type "tuple", do_EAST, .seq it_EAST en_EAST, so_EAST⟩) (w_EAST : Vals [.int (1), .int (0)] it_EAST.toList) (v_EAST : it_EAST.size ≤ sizeLine)
    {a_NORTH : Addr} {do_NORTH : Option Addr} {it_NORTH : Array Value} {en_NORTH : Nat} {so_NORTH : Array (Option Value)} (x_NORTH : PySem.W.nsIn K mainGlobals "NORTH" = some (some (.ref a_NORTH))) (y_NORTH : K.lookup a_NORTH = some ⟨.type "tuple", do_NORTH, .seq it_NORTH en_NORTH, so_NORTH⟩) (w_NORTH : Vals [.int (0), .int (1)] it_NORTH.toList) (v_NORTH : it_NORTH.size ≤ sizeLine)
    {a_WEST : Addr} {do_WEST : Option Addr} {it_WEST : Array Value} {en_WEST : Nat} {so_WEST : Array (Option Value)} (x_WEST : PySem.W.nsIn K mainGlobals "WEST" = some (some (.ref a_WEST))) (y_WEST : K.lookup a_WEST = some ⟨.type "tuple", do_WEST, .seq it_WEST en_WEST, so_WEST⟩) (w_WEST : Vals [.int (-1), .int (0)] it_WEST.toList) (v_WEST : it_WEST.size ≤ sizeLine) :
    ∃ (x qual : Str) (st : Stmt) (fd : FuncData) (N : List Str), Fun K x qual st fa fd ∧ FnScope N ["script"] (defScope st) ∧ (∀ (s : Shared) (u : Value), BindsTo s fd ⟨[u], []⟩ [("script", u)]) ∧ LawGo l.prog w K mg fa qual st N 5 63 := by
  have e := hfa.symm.trans (PySem.W.mg_of X G a_law)
  cases e
  exact ⟨"law", "law", s_law, _, NN_law, fun_mk (st := s_law) l_law c_law k_law, sc_law, fun s v => .of_eq rfl, law_go {
    f_going := f_going,
    d_going := _,
    F_going := (fun_mk (st := s_going) l_going c_going k_going),
    g_going := PySem.W.mg_of X G a_going,
    b_going := Fun.binds (fun_mk (st := s_going) l_going c_going k_going) (fun _ _ _ _ _ _ us hl => match us, hl with | [_], _ => rfl),
    f_left_of := f_left_of,
    d_left_of := _,
    F_left_of := (fun_mk (st := s_left_of) l_left_of c_left_of k_left_of),
    g_left_of := PySem.W.mg_of X G a_left_of,
    b_left_of := Fun.binds (fun_mk (st := s_left_of) l_left_of c_left_of k_left_of) (fun _ _ _ _ _ _ us hl => match us, hl with | [_], _ => rfl),
    f_right_of := f_right_of,
    d_right_of := _,
    F_right_of := (fun_mk (st := s_right_of) l_right_of c_right_of k_right_of),
    g_right_of := PySem.W.mg_of X G a_right_of,
    b_right_of := Fun.binds (fun_mk (st := s_right_of) l_right_of c_right_of k_right_of) (fun _ _ _ _ _ _ us hl => match us, hl with | [_], _ => rfl),
    f_round_cell := f_round_cell,
    d_round_cell := _,
    F_round_cell := (fun_mk (st := s_round_cell) l_round_cell c_round_cell k_round_cell),
    g_round_cell := PySem.W.mg_of X G a_round_cell,
    b_round_cell := Fun.binds (fun_mk (st := s_round_cell) l_round_cell c_round_cell k_round_cell) (fun _ _ _ _ _ _ us hl => match us, hl with | [_], _ => rfl),
    f_sides := f_sides,
    d_sides := _,
    F_sides := (fun_mk (st := s_sides) l_sides c_sides k_sides),
    g_sides := PySem.W.mg_of X G a_sides,
    b_sides := Fun.binds (fun_mk (st := s_sides) l_sides c_sides k_sides) (fun _ _ _ _ _ _ us hl => match us, hl with | [_], _ => rfl),
    f_between := f_between,
    d_between := _,
    F_between := (fun_mk (st := s_between) l_between c_between k_between),
    g_between := PySem.W.mg_of X G a_between,
    b_between := Fun.binds (fun_mk (st := s_between) l_between c_between k_between) (fun _ _ _ _ _ _ us hl => match us, hl with | [_, _], _ => rfl),
    f__law_begun := f__law_begun,
    d__law_begun := _,
    F__law_begun := (fun_mk (st := s__law_begun) l__law_begun c__law_begun k__law_begun),
    g__law_begun := PySem.W.mg_of X G a__law_begun,
    b__law_begun := Fun.binds (fun_mk (st := s__law_begun) l__law_begun c__law_begun k__law_begun) (fun _ _ _ _ _ _ us hl => match us, hl with | [_], _ => rfl),
    f__law_take := f__law_take,
    d__law_take := _,
    F__law_take := (fun_mk (st := s__law_take) l__law_take c__law_take k__law_take),
    g__law_take := PySem.W.mg_of X G a__law_take,
    b__law_take := Fun.binds (fun_mk (st := s__law_take) l__law_take c__law_take k__law_take) (fun _ _ _ _ _ _ us hl => match us, hl with | [_, _], _ => rfl),
    f__law_box := f__law_box,
    d__law_box := _,
    F__law_box := (fun_mk (st := s__law_box) l__law_box c__law_box k__law_box),
    g__law_box := PySem.W.mg_of X G a__law_box,
    b__law_box := Fun.binds (fun_mk (st := s__law_box) l__law_box c__law_box k__law_box) (fun _ _ _ _ _ _ us hl => match us, hl with | [_, _, _], _ => rfl),
    f__law_size := f__law_size,
    d__law_size := _,
    F__law_size := (fun_mk (st := s__law_size) l__law_size c__law_size k__law_size),
    g__law_size := PySem.W.mg_of X G a__law_size,
    b__law_size := Fun.binds (fun_mk (st := s__law_size) l__law_size c__law_size k__law_size) (fun _ _ _ _ _ _ us hl => match us, hl with | [_], _ => rfl),
    f__law_around := f__law_around,
    d__law_around := _,
    F__law_around := (fun_mk (st := s__law_around) l__law_around c__law_around k__law_around),
    g__law_around := PySem.W.mg_of X G a__law_around,
    b__law_around := Fun.binds (fun_mk (st := s__law_around) l__law_around c__law_around k__law_around) (fun _ _ _ _ _ _ us hl => match us, hl with | [_], _ => rfl),
    f__law_sides := f__law_sides,
    d__law_sides := _,
    F__law_sides := (fun_mk (st := s__law_sides) l__law_sides c__law_sides k__law_sides),
    g__law_sides := PySem.W.mg_of X G a__law_sides,
    b__law_sides := Fun.binds (fun_mk (st := s__law_sides) l__law_sides c__law_sides k__law_sides) (fun _ _ _ _ _ _ us hl => match us, hl with | [_], _ => rfl),
    f__law_parted := f__law_parted,
    d__law_parted := _,
    F__law_parted := (fun_mk (st := s__law_parted) l__law_parted c__law_parted k__law_parted),
    g__law_parted := PySem.W.mg_of X G a__law_parted,
    b__law_parted := Fun.binds (fun_mk (st := s__law_parted) l__law_parted c__law_parted k__law_parted) (fun _ _ _ _ _ _ us hl => match us, hl with | [_, _], _ => rfl),
    f__law_beside := f__law_beside,
    d__law_beside := _,
    F__law_beside := (fun_mk (st := s__law_beside) l__law_beside c__law_beside k__law_beside),
    g__law_beside := PySem.W.mg_of X G a__law_beside,
    b__law_beside := Fun.binds (fun_mk (st := s__law_beside) l__law_beside c__law_beside k__law_beside) (fun _ _ _ _ _ _ us hl => match us, hl with | [_, _], _ => rfl),
    f_law := fa,
    d_law := _,
    F_law := (fun_mk (st := s_law) l_law c_law k_law),
    g_law := PySem.W.mg_of X G a_law,
    b_law := Fun.binds (fun_mk (st := s_law) l_law c_law k_law) (fun _ _ _ _ _ _ us hl => match us, hl with | [_], _ => rfl),
    n_len := PySem.W.mg_none_of X G z_len,
    n_list := PySem.W.mg_none_of X G z_list,
    n_range := PySem.W.mg_none_of X G z_range,
    n_repr := PySem.W.mg_none_of X G z_repr,
    n_sorted := PySem.W.mg_none_of X G z_sorted,
    n_sum := PySem.W.mg_none_of X G z_sum,
    n_tuple := PySem.W.mg_none_of X G z_tuple,
    a_EAST := a_EAST,
    m_EAST := PySem.W.mg_of X G x_EAST,
    v_EAST := .tup (.inr ⟨_, it_EAST, en_EAST, y_EAST, rfl, rfl, v_EAST, w_EAST⟩) (.cons (.int _) (.cons (.int _) .nil)),
    a_NORTH := a_NORTH,
    m_NORTH := PySem.W.mg_of X G x_NORTH,
    v_NORTH := .tup (.inr ⟨_, it_NORTH, en_NORTH, y_NORTH, rfl, rfl, v_NORTH, w_NORTH⟩) (.cons (.int _) (.cons (.int _) .nil)),
    a_WEST := a_WEST,
    m_WEST := PySem.W.mg_of X G x_WEST,
    v_WEST := .tup (.inr ⟨_, it_WEST, en_WEST, y_WEST, rfl, rfl, v_WEST, w_WEST⟩) (.cons (.int _) (.cons (.int _) .nil)),
    kb_between_0_other_one := kb_of (fun_mk (st := s_between) l_between c_between k_between) rfl (fun _ _ _ _ _ _ us ws h1 h2 => match us, ws, h1, h2 with | [], [w0, w1], _, _ => rfl) }⟩
end Q23
open PySem PySem.W PyProof.Rows DL in
set_option maxRecDepth 100000 in
set_option maxHeartbeats 0 in
theorem PySem.Challenge.cw_lothouse_k23_sides_between_regions_holds : PySem.Challenge.rw_lothouse_k23_sides_between_regions.Holds := by
  w_on; o_law; k_head; (case hw => w_witness2)
  k_fill
  refine DL.walk_top (n := 5) (m := 63) (l := PySem.Challenge.rw_lothouse_k23_sides_between_regions) rfl (by decide) rfl ⟨rfl, by decide, by decide⟩ (fun w h Y => PySem.W.kIn_of Y) ?F
  case F =>
    intro w mg fa h KX G hmg
    refine' Q23.all_mk KX G hmg ?a_going ?l_going ?c_going ?k_going ?a_left_of ?l_left_of ?c_left_of ?k_left_of ?a_right_of ?l_right_of ?c_right_of ?k_right_of ?a_round_cell ?l_round_cell ?c_round_cell ?k_round_cell ?a_sides ?l_sides ?c_sides ?k_sides ?a_between ?l_between ?c_between ?k_between ?a__law_begun ?l__law_begun ?c__law_begun ?k__law_begun ?a__law_take ?l__law_take ?c__law_take ?k__law_take ?a__law_box ?l__law_box ?c__law_box ?k__law_box ?a__law_size ?l__law_size ?c__law_size ?k__law_size ?a__law_around ?l__law_around ?c__law_around ?k__law_around ?a__law_sides ?l__law_sides ?c__law_sides ?k__law_sides ?a__law_parted ?l__law_parted ?c__law_parted ?k__law_parted ?a__law_beside ?l__law_beside ?c__law_beside ?k__law_beside ?a_law ?l_law ?c_law ?k_law ?z_len ?z_list ?z_range ?z_repr ?z_sorted ?z_sum ?z_tuple ?x_EAST ?y_EAST ?w_EAST ?v_EAST ?x_NORTH ?y_NORTH ?w_NORTH ?v_NORTH ?x_WEST ?y_WEST ?w_WEST ?v_WEST
    (case a_going => k_is)
    (case l_going => k_is)
    (case c_going => k_is)
    (case k_going => k_is)
    (case a_left_of => k_is)
    (case l_left_of => k_is)
    (case c_left_of => k_is)
    (case k_left_of => k_is)
    (case a_right_of => k_is)
    (case l_right_of => k_is)
    (case c_right_of => k_is)
    (case k_right_of => k_is)
    (case a_round_cell => k_is)
    (case l_round_cell => k_is)
    (case c_round_cell => k_is)
    (case k_round_cell => k_is)
    (case a_sides => k_is)
    (case l_sides => k_is)
    (case c_sides => k_is)
    (case k_sides => k_is)
    (case a_between => k_is)
    (case l_between => k_is)
    (case c_between => k_is)
    (case k_between => k_is)
    (case a__law_begun => k_is)
    (case l__law_begun => k_is)
    (case c__law_begun => k_is)
    (case k__law_begun => k_is)
    (case a__law_take => k_is)
    (case l__law_take => k_is)
    (case c__law_take => k_is)
    (case k__law_take => k_is)
    (case a__law_box => k_is)
    (case l__law_box => k_is)
    (case c__law_box => k_is)
    (case k__law_box => k_is)
    (case a__law_size => k_is)
    (case l__law_size => k_is)
    (case c__law_size => k_is)
    (case k__law_size => k_is)
    (case a__law_around => k_is)
    (case l__law_around => k_is)
    (case c__law_around => k_is)
    (case k__law_around => k_is)
    (case a__law_sides => k_is)
    (case l__law_sides => k_is)
    (case c__law_sides => k_is)
    (case k__law_sides => k_is)
    (case a__law_parted => k_is)
    (case l__law_parted => k_is)
    (case c__law_parted => k_is)
    (case k__law_parted => k_is)
    (case a__law_beside => k_is)
    (case l__law_beside => k_is)
    (case c__law_beside => k_is)
    (case k__law_beside => k_is)
    (case a_law => k_is)
    (case l_law => k_is)
    (case c_law => k_is)
    (case k_law => k_is)
    (case z_len => k_is)
    (case z_list => k_is)
    (case z_range => k_is)
    (case z_repr => k_is)
    (case z_sorted => k_is)
    (case z_sum => k_is)
    (case z_tuple => k_is)
    (case x_EAST => k_is)
    (case y_EAST => k_is)
    (case w_EAST => exact .cons ⟨_, rfl⟩ (.cons ⟨_, rfl⟩ (.nil)))
    (case v_EAST => exact (sz64 rfl))
    (case x_NORTH => k_is)
    (case y_NORTH => k_is)
    (case w_NORTH => exact .cons ⟨_, rfl⟩ (.cons ⟨_, rfl⟩ (.nil)))
    (case v_NORTH => exact (sz64 rfl))
    (case x_WEST => k_is)
    (case y_WEST => k_is)
    (case w_WEST => exact .cons ⟨_, rfl⟩ (.cons ⟨_, rfl⟩ (.nil)))
    (case v_WEST => exact (sz64 rfl))
#print axioms PySem.Challenge.cw_lothouse_k23_sides_between_regions_holds
